import PyProof.Rows.All
import Wide.All
import OpenK.AllK
import Wide.FinOn
import HandS.ForMost
import HandS.Walk
import HandS.Wide
import HandS.DeepEq
import HandS.DictComp
import KE.KEqNest
import PyProof.NeKinds
import HandS.SortRule
import HandS.SortInts
import HandS.Defaults
import HandS.Flow
import HandS.Head0
import HandS.Head1
import HandS.Head2
import HandS.HeadEnd
import HandS.HeadHook1
import HandS.HeadHook2
import HandS.More
import KE.DataMinMax
import PyProof.DictWalks
import HandS.IsInst
import OpenK.KEqL
import KE.DataEq
import HandS.Replace
import HandS.MakeKw
import HandS.MakeKwOnly
import HandS.New0
import KE.SortKeyHeap
import PyProof.Rows.SortWalk
import HandS.Conv
import HandS.ExcInit
import HandS.ExcValue
import HandS.ExcIs
import HandS.ExcField
import KE.KExcIs
import HandS.HeadHook4
import PySem.Challenge.RW_slotkeep_k71_refusals_made
set_option Elab.async false
set_option linter.all false
set_option maxRecDepth 100000
set_option maxHeartbeats 4000000
/-! The symbolic state over the hand layer: a ghost base B (what is never changed again), the heap H, a ledger L of what may be changed. -/
namespace Y
open PySem PySem.Spec PyProof.Rows L2

abbrev Led := List (Addr × HO)

/-- a dict -/
def Dk : HO → Prop
  | .dK _ => True
  | .dT _ => True
  | _ => False
/-- no tuple -/
def NT (o : HO) : Prop := ∀ xs, o ≠ .tup xs
/-- what stands in B stands in H, a dict locked perhaps -/
def Sub (B H : Hp) : Prop := ∀ a o, B a = some o → H a = some o ∨ (Dk o ∧ ∃ ob, H a = some (.frz ob o))

/-- the entry: what may change (M), what is locked since (Z), the base, the heap -/
structure En where
  M : List Addr
  Z : List (Addr × Obj × HO)
  B : Hp
  H : Hp

structure Sy (e : En) (B H : Hp) (L : Led) : Prop where
  b0 : Same e.B B
  bh : Sub B H
  led : ∀ p ∈ L, H p.1 = some p.2 ∧ B p.1 = none ∧ (p.1 ∈ e.M ∨ e.H p.1 = none) ∧ p.1 ∉ e.Z.map (·.1)
  nd : (L.map (·.1)).Nodup
  keep : ∀ a o, a ∉ e.M → a ∉ e.Z.map (·.1) → e.H a = some o → H a = some o
  fresh : ∀ a, e.H a ≠ none → e.B a = none → B a = none ∨ ∃ xs, B a = some (.tup xs)
  there : ∀ a, e.H a ≠ none → H a ≠ none
  zin : ∀ p ∈ e.Z, H p.1 = some (.frz p.2.1 p.2.2)
  lk : ∀ a o, B a = some o → Dk o → H a = some o ∨ a ∈ e.Z.map (·.1) ∨ ∃ ob u, e.H a = some (.frz ob u)
  nt : ∀ p ∈ L, NT p.2

/-- what a caller hands over -/
structure Hand (B H : Hp) (L : Led) : Prop where
  bh : Sub B H
  led : ∀ p ∈ L, H p.1 = some p.2 ∧ B p.1 = none
  nd : (L.map (·.1)).Nodup
  nt : ∀ p ∈ L, NT p.2

theorem Sub.refl (B : Hp) : Sub B B := fun _ _ h => .inl h
theorem Sub.of {B H : Hp} (h : Same B H) : Sub B H := fun a o e => .inl (h a o e)
theorem Sub.after {B B' H : Hp} (s : Same B B') (h : Sub B' H) : Sub B H := fun a o e => h a o (s a o e)


section
variable {e : En} {B B' H H' : Hp} {L R : Led} {a b p : Addr} {o o' u : HO} {K : PySem.W.Frag} {v : V} {dd : PyData} {xs : List V}

theorem Sub.rd (h : Sub B H) (r : Rd B a u) : Rd H a u := by
  rcases r with r | ⟨ob, r⟩
  · rcases h a _ r with q | ⟨_, ob, q⟩
    · exact .inl q
    · exact .inr ⟨ob, q⟩
  · rcases h a _ r with q | ⟨m, _⟩
    · exact .inr ⟨ob, q⟩
    · exact m.elim
theorem Sub.l (h : Sub B H) (r : SqL K B a xs) : SqL K H a xs := by
  rcases r with r | r
  · exact .inl (h.rd r)
  · exact .inr r
theorem Sub.t (h : Sub B H) (r : SqT K B a xs) : SqT K H a xs := by
  rcases r with r | r
  · exact .inl (h.rd r)
  · exact .inr r
theorem Sub.tup (h : Sub B H) (r : B a = some (.tup xs)) : H a = some (.tup xs) := by
  rcases h a _ r with q | ⟨m, _⟩
  · exact q
  · exact m.elim
theorem Sub.lst (h : Sub B H) (r : B a = some (.lst xs)) : H a = some (.lst xs) := by
  rcases h a _ r with q | ⟨m, _⟩
  · exact q
  · exact m.elim
theorem Sub.ins {C dx : Addr} {fs : List (Str × V)} (h : Sub B H) (r : B a = some (.ins C dx fs)) : H a = some (.ins C dx fs) := by
  rcases h a _ r with q | ⟨m, _⟩
  · exact q
  · exact m.elim

mutual
theorem Sub.d (h : Sub B H) : ∀ {d : PyData} {v : V}, Dp K B v d → Dp K H v d
  | _, _, .non => .non
  | _, _, .bl b => .bl b
  | _, _, .int i => .int i
  | _, _, .str x => .str x
  | _, _, .lst r q => .lst (h.l r) (Sub.ds h q)
  | _, _, .tup r q => .tup (h.t r) (Sub.ds h q)
theorem Sub.ds (h : Sub B H) : ∀ {ds : List PyData} {vs : List V}, DpAll K B vs ds → DpAll K H vs ds
  | _, _, .nil => .nil
  | _, _, .cons r q => .cons (Sub.d h r) (Sub.ds h q)
end
theorem Sub.of' (h : Same B B') : Sub B B' := Sub.of h
theorem up_d (h : Same B B') (r : Dp K B v dd) : Dp K B' v dd := Sub.d (Sub.of h) r
theorem up_l (h : Same B B') (r : SqL K B a xs) : SqL K B' a xs := (Sub.of h).l r
theorem up_t (h : Same B B') (r : SqT K B a xs) : SqT K B' a xs := (Sub.of h).t r
theorem up_o (h : Same B B') (r : B a = some o) : B' a = some o := h a o r

theorem Hand.start (h : Hand B H L) : Sy ⟨L.map (·.1), [], B, H⟩ B H L :=
  ⟨Same.refl B, h.bh, fun p hp => ⟨(h.led p hp).1, (h.led p hp).2, .inl (List.mem_map.mpr ⟨p, hp, rfl⟩), by simp⟩, h.nd, fun _ _ _ _ q => q, fun _ _ q => .inl q, fun _ q => q, fun _ q => absurd q (by simp), fun a o q hk => (h.bh a o q).elim .inl fun z => .inr (.inr ⟨_, _, z.2.choose_spec⟩), h.nt⟩

/-- only some of the ledger -/
theorem Sy.sub (S : Sy e B H L) {L' : Led} (h : L'.Sublist L) : Sy e B H L' :=
  ⟨S.b0, S.bh, fun p hp => S.led p (h.subset hp), S.nd.sublist (h.map _), S.keep, S.fresh, S.there, S.zin, S.lk, fun p hp => S.nt p (h.subset hp)⟩
theorem Sy.perm (S : Sy e B H L) {L' : Led} (h : L.Perm L') : Sy e B H L' :=
  ⟨S.b0, S.bh, fun p hp => S.led p (h.mem_iff.mpr hp), (h.map _).nodup_iff.mp S.nd, S.keep, S.fresh, S.there, S.zin, S.lk, fun p hp => S.nt p (h.mem_iff.mpr hp)⟩
theorem Sy.none (S : Sy e B H L) : Sy e B H [] := S.sub (List.nil_sublist _)
theorem Sy.tail {q : Addr × HO} (S : Sy e B H (q :: L)) : Sy e B H L := S.sub (List.sublist_cons_self _ _)
theorem Sy.drop1 {q1 q2 : Addr × HO} (S : Sy e B H (q1 :: q2 :: L)) : Sy e B H (q1 :: L) := S.sub ((List.sublist_cons_self _ _).cons_cons _)
theorem Sy.drop2 {q1 q2 q3 : Addr × HO} (S : Sy e B H (q1 :: q2 :: q3 :: L)) : Sy e B H (q1 :: q2 :: L) := S.sub (((List.sublist_cons_self _ _).cons_cons _).cons_cons _)
theorem Sy.swap {q1 q2 : Addr × HO} (S : Sy e B H (q1 :: q2 :: L)) : Sy e B H (q2 :: q1 :: L) := S.perm (List.Perm.swap _ _ _)

/-- a new thing that is never changed again -/
theorem Sy.newI (S : Sy e B H L) (h : H p = Option.none) : Same B (upd B p o) ∧ Sy e (upd B p o) (upd H p o) L := by
  have hB : B p = Option.none := by
    cases q : B p with
    | none => rfl
    | some x => rcases S.bh p x q with r | ⟨_, _, r⟩ <;> (rw [h] at r; cases r)
  have sb : Same B (upd B p o) := fun a x q => by rw [upd_ne (ne_of_none q hB)]; exact q
  have hH0 : e.H p = Option.none := by
    cases q : e.H p with
    | none => rfl
    | some x => exact absurd h (S.there p (by rw [q]; simp))
  refine ⟨sb, S.b0.trans sb, fun a x q => ?_, fun q hq => ?_, S.nd, fun a x h1 h2 q => ?_, fun a q1 q2 => ?_, fun a q => ?_, fun a q => ?_, fun a x q hk => ?_, S.nt⟩
  · by_cases ha : a = p
    · subst ha; rw [upd_same] at q; cases q; exact .inl upd_same
    · rw [upd_ne ha] at q
      rw [upd_ne ha]; exact S.bh a x q
  · obtain ⟨q1, q2, q3, q4⟩ := S.led q hq
    have ne : q.1 ≠ p := ne_of_none q1 h
    exact ⟨by rw [upd_ne ne]; exact q1, by rw [upd_ne ne]; exact q2, q3, q4⟩
  · have r := S.keep a x h1 h2 q
    rw [upd_ne (ne_of_none r h)]; exact r
  · have ne : a ≠ p := fun z => by subst z; exact q1 hH0
    rw [upd_ne ne]; exact S.fresh a q1 q2
  · have r := S.there a q
    have ne : a ≠ p := fun z => by subst z; exact r h
    rw [upd_ne ne]; exact r
  · have r := S.zin a q
    rw [upd_ne (ne_of_none r h)]; exact r
  · by_cases ha : a = p
    · subst ha; rw [upd_same] at q; cases q; exact .inl upd_same
    · rw [upd_ne ha] at q
      rw [upd_ne ha]; exact S.lk a x q hk
/-- a new thing that may be changed -/
theorem Sy.newM (S : Sy e B H L) (h : H p = Option.none) (no : NT o := by intro _ z; cases z) : e.H p = Option.none ∧ Sy e B (upd H p o) ((p, o) :: L) := by
  have hB : B p = Option.none := by
    cases q : B p with
    | none => rfl
    | some x => rcases S.bh p x q with r | ⟨_, _, r⟩ <;> (rw [h] at r; cases r)
  have hH0 : e.H p = Option.none := by
    cases q : e.H p with
    | none => rfl
    | some x => exact absurd h (S.there p (by rw [q]; simp))
  refine ⟨hH0, S.b0, fun a x q => ?_, fun q hq => ?_, ?_, fun a x h1 h2 q => ?_, S.fresh, fun a q => ?_, fun a q => ?_, fun a x q hk => ?_, fun q hq => (List.mem_cons.mp hq).elim (fun z => by rw [z]; exact no) (S.nt q)⟩
  · rw [upd_ne (ne_of_none q hB)]; exact S.bh a x q
  · rcases List.mem_cons.mp hq with rfl | hq
    · exact ⟨upd_same, hB, .inr hH0, fun z => by
        obtain ⟨q, hq, e1⟩ := List.mem_map.mp z
        have := S.zin q hq
        rw [show q.1 = p from e1, h] at this; cases this⟩
    · obtain ⟨q1, q2, q3, q4⟩ := S.led q hq
      exact ⟨by rw [upd_ne (ne_of_none q1 h)]; exact q1, q2, q3, q4⟩
  · rw [List.map_cons]
    refine List.nodup_cons.mpr ⟨fun hm => ?_, S.nd⟩
    obtain ⟨q, hq, e1⟩ := List.mem_map.mp hm
    have := (S.led q hq).1
    rw [show q.1 = p from e1, h] at this; cases this
  · have r := S.keep a x h1 h2 q
    rw [upd_ne (ne_of_none r h)]; exact r
  · have r := S.there a q
    have ne : a ≠ p := fun z => by subst z; exact r h
    rw [upd_ne ne]; exact r
  · have r := S.zin a q
    rw [upd_ne (ne_of_none r h)]; exact r
  · rw [upd_ne (ne_of_none q hB)]; exact S.lk a x q hk
/-- a new thing that nobody asks any more -/
theorem Sy.newG (S : Sy e B H L) (h : H p = Option.none) : Sy e B (upd H p o) L := by
  have hB : B p = Option.none := by
    cases q : B p with
    | none => rfl
    | some x => rcases S.bh p x q with r | ⟨_, _, r⟩ <;> (rw [h] at r; cases r)
  refine ⟨S.b0, fun a x q => ?_, fun q hq => ?_, S.nd, fun a x h1 h2 q => ?_, S.fresh, fun a q => ?_, fun a q => ?_, fun a x q hk => ?_, S.nt⟩
  · rw [upd_ne (ne_of_none q hB)]; exact S.bh a x q
  · obtain ⟨q1, q2, q3, q4⟩ := S.led q hq
    exact ⟨by rw [upd_ne (ne_of_none q1 h)]; exact q1, q2, q3, q4⟩
  · have r := S.keep a x h1 h2 q
    rw [upd_ne (ne_of_none r h)]; exact r
  · have r := S.there a q
    have ne : a ≠ p := fun z => by subst z; exact r h
    rw [upd_ne ne]; exact r
  · have r := S.zin a q
    rw [upd_ne (ne_of_none r h)]; exact r
  · rw [upd_ne (ne_of_none q hB)]; exact S.lk a x q hk
/-- the first of the ledger is changed -/
theorem Sy.w0 (S : Sy e B H ((a, o) :: L)) (o' : HO) (no : NT o' := by intro _ z; cases z) : Sy e B (upd H a o') ((a, o') :: L) := by
  obtain ⟨q1, q2, q3, q4⟩ := S.led (a, o) List.mem_cons_self
  have hnd := List.nodup_cons.mp (show (a :: L.map (·.1)).Nodup from S.nd)
  refine ⟨S.b0, fun b x q => ?_, fun q hq => ?_, S.nd, fun b x h1 h2 q => ?_, S.fresh, fun b q => ?_, fun b q => ?_, fun b x q hk => ?_, fun q hq => (List.mem_cons.mp hq).elim (fun z => by rw [z]; exact no) (fun z => S.nt q (List.mem_cons_of_mem _ z))⟩
  · rw [upd_ne (ne_of_none q q2)]; exact S.bh b x q
  · rcases List.mem_cons.mp hq with rfl | hq
    · exact ⟨upd_same, q2, q3, q4⟩
    · obtain ⟨r1, r2, r3, r4⟩ := S.led q (List.mem_cons_of_mem _ hq)
      have ne : q.1 ≠ a := fun z => hnd.1 (List.mem_map.mpr ⟨q, hq, z⟩)
      exact ⟨by rw [upd_ne ne]; exact r1, r2, r3, r4⟩
  · have r := S.keep b x h1 h2 q
    have ne : b ≠ a := fun z => by
      subst z
      rcases q3 with z | z
      · exact h1 z
      · rw [show (b, o).1 = b from rfl] at z; rw [q] at z; cases z
    rw [upd_ne ne]; exact r
  · by_cases hb : b = a
    · subst hb; rw [upd_same]; simp
    · rw [upd_ne hb]; exact S.there b q
  · have ne : b.1 ≠ a := fun z => q4 (List.mem_map.mpr ⟨b, q, z⟩)
    rw [upd_ne ne]; exact S.zin b q
  · rw [upd_ne (ne_of_none q q2)]; exact S.lk b x q hk
theorem Sy.w1 {q : Addr × HO} (S : Sy e B H (q :: (a, o) :: L)) (o' : HO) (no : NT o' := by intro _ z; cases z) : Sy e B (upd H a o') (q :: (a, o') :: L) := (S.swap.w0 o' no).swap
theorem Sy.rot {q1 q2 q3 : Addr × HO} (S : Sy e B H (q1 :: q2 :: q3 :: L)) : Sy e B H (q3 :: q1 :: q2 :: L) := S.perm ((List.Perm.swap _ _ _).cons _ |>.trans (List.Perm.swap _ _ _))
theorem Sy.unrot {q1 q2 q3 : Addr × HO} (S : Sy e B H (q3 :: q1 :: q2 :: L)) : Sy e B H (q1 :: q2 :: q3 :: L) := S.perm ((List.Perm.swap _ _ _).trans ((List.Perm.swap _ _ _).cons _))
theorem Sy.w2 {q1 q2 : Addr × HO} (S : Sy e B H (q1 :: q2 :: (a, o) :: L)) (o' : HO) (no : NT o' := by intro _ z; cases z) : Sy e B (upd H a o') (q1 :: q2 :: (a, o') :: L) := (S.rot.w0 o' no).unrot
theorem Sy.rot4 {q1 q2 q3 q4 : Addr × HO} (S : Sy e B H (q1 :: q2 :: q3 :: q4 :: L)) : Sy e B H (q4 :: q1 :: q2 :: q3 :: L) :=
  S.perm ((((List.Perm.swap _ _ _).cons _).cons _).trans (((List.Perm.swap _ _ _).cons _).trans (List.Perm.swap _ _ _)))
theorem Sy.unrot4 {q1 q2 q3 q4 : Addr × HO} (S : Sy e B H (q4 :: q1 :: q2 :: q3 :: L)) : Sy e B H (q1 :: q2 :: q3 :: q4 :: L) :=
  S.perm ((List.Perm.swap _ _ _).trans (((List.Perm.swap _ _ _).cons _).trans (((List.Perm.swap _ _ _).cons _).cons _)))
theorem Sy.w3 {q1 q2 q3 : Addr × HO} (S : Sy e B H (q1 :: q2 :: q3 :: (a, o) :: L)) (o' : HO) (no : NT o' := by intro _ z; cases z) : Sy e B (upd H a o') (q1 :: q2 :: q3 :: (a, o') :: L) := (S.rot4.w0 o' no).unrot4
theorem Sy.g0 (S : Sy e B H ((a, o) :: L)) : H a = some o := (S.led _ List.mem_cons_self).1
theorem Sy.g1 {q : Addr × HO} (S : Sy e B H (q :: (a, o) :: L)) : H a = some o := S.tail.g0
theorem Sy.g2 {q1 q2 : Addr × HO} (S : Sy e B H (q1 :: q2 :: (a, o) :: L)) : H a = some o := S.tail.tail.g0
theorem Sy.g3 {q1 q2 q3 : Addr × HO} (S : Sy e B H (q1 :: q2 :: q3 :: (a, o) :: L)) : H a = some o := S.tail.tail.tail.g0
/-- the first of the ledger is changed no more -/
theorem Sy.freeze (S : Sy e B H ((a, o) :: L)) (h : e.H a = Option.none) : Same B (upd B a o) ∧ Sy e (upd B a o) H L := by
  obtain ⟨q1, q2, q3, q4⟩ := S.led (a, o) List.mem_cons_self
  have hnd := List.nodup_cons.mp (show (a :: L.map (·.1)).Nodup from S.nd)
  have sb : Same B (upd B a o) := fun b x q => by rw [upd_ne (ne_of_none q q2)]; exact q
  refine ⟨sb, S.b0.trans sb, fun b x q => ?_, fun q hq => ?_, hnd.2, S.keep, fun b r1 r2 => ?_, S.there, S.zin, fun b x q hk => ?_, fun q hq => S.nt q (List.mem_cons_of_mem _ hq)⟩
  · by_cases hb : b = a
    · subst hb; rw [upd_same] at q; cases q; exact .inl q1
    · rw [upd_ne hb] at q; exact S.bh b x q
  · obtain ⟨r1, r2, r3, r4⟩ := S.led q (List.mem_cons_of_mem _ hq)
    have ne : q.1 ≠ a := fun z => hnd.1 (List.mem_map.mpr ⟨q, hq, z⟩)
    exact ⟨r1, by rw [upd_ne ne]; exact r2, r3, r4⟩
  · have ne : b ≠ a := fun z => by subst z; exact r1 h
    rw [upd_ne ne]; exact S.fresh b r1 r2
  · by_cases hb : b = a
    · subst hb; rw [upd_same] at q; cases q; exact .inl q1
    · rw [upd_ne hb] at q; exact S.lk b x q hk
theorem Sy.freeze1 {q : Addr × HO} (S : Sy e B H (q :: (a, o) :: L)) (h : e.H a = Option.none) : Same B (upd B a o) ∧ Sy e (upd B a o) H (q :: L) := S.swap.freeze h
theorem Sy.freeze2 {q1 q2 : Addr × HO} (S : Sy e B H (q1 :: q2 :: (a, o) :: L)) (h : e.H a = Option.none) : Same B (upd B a o) ∧ Sy e (upd B a o) H (q1 :: q2 :: L) := S.rot.freeze h

/-- what a callee is handed: the first n of the ledger -/
theorem Sy.hand (S : Sy e B H (L ++ R)) : Hand B H L :=
  ⟨S.bh, fun p hp => ⟨(S.led p (List.mem_append_left _ hp)).1, (S.led p (List.mem_append_left _ hp)).2.1⟩, by
    have h := S.nd
    rw [List.map_append] at h
    exact (List.nodup_append.mp h).1, fun p hp => S.nt p (List.mem_append_left _ hp)⟩
/-- behind a call -/
theorem Sy.back {L' : Led} (S : Sy e B H (L ++ R)) (T : Sy ⟨L.map (·.1), [], B, H⟩ B' H' L') (hl : L'.map (·.1) = L.map (·.1)) : Sy e B' H' (L' ++ R) := by
  have nd := S.nd
  rw [List.map_append] at nd
  have nR : ∀ p ∈ R, p.1 ∉ L.map (·.1) := fun p hp hm => (List.nodup_append.mp nd).2.2 _ hm _ (List.mem_map.mpr ⟨p, hp, rfl⟩) rfl
  have frR : ∀ p ∈ R, B' p.1 = Option.none := fun p hp => by
    obtain ⟨s1, s2, s3, s4⟩ := S.led p (List.mem_append_right _ hp)
    rcases T.fresh p.1 (by show H p.1 ≠ _; rw [s1]; simp) s2 with z | ⟨xs, z⟩
    · exact z
    · have h1 := T.keep p.1 p.2 (nR p hp) (by simp) s1
      have h2 := T.bh.tup z
      rw [h1] at h2
      exact absurd (Option.some.inj h2) (S.nt p (List.mem_append_right _ hp) xs)
  refine ⟨S.b0.trans T.b0, T.bh, fun p hp => ?_, ?_, fun a x h1 h2 q => ?_, fun a r1 r2 => ?_, fun a r => T.there a (S.there a r), fun p hp => ?_, fun a x q hk => ?_, fun p hp => (List.mem_append.mp hp).elim (T.nt p) (fun z => S.nt p (List.mem_append_right _ z))⟩
  · rcases List.mem_append.mp hp with hp | hp
    · obtain ⟨r1, r2, r3, r4⟩ := T.led p hp
      have hm : p.1 ∈ L.map (·.1) := by rw [← hl]; exact List.mem_map.mpr ⟨p, hp, rfl⟩
      obtain ⟨q, hq, eq⟩ := List.mem_map.mp hm
      obtain ⟨s1, s2, s3, s4⟩ := S.led q (List.mem_append_left _ hq)
      exact ⟨r1, r2, by rw [← eq]; exact s3, by rw [← eq]; exact s4⟩
    · obtain ⟨s1, s2, s3, s4⟩ := S.led p (List.mem_append_right _ hp)
      exact ⟨T.keep p.1 p.2 (nR p hp) (by simp) s1, frR p hp, s3, s4⟩
  · rw [List.map_append, hl]; exact nd
  · have r := S.keep a x h1 h2 q
    refine T.keep a x (fun hm => ?_) (by simp) r
    obtain ⟨p, hp, eq⟩ := List.mem_map.mp hm
    obtain ⟨s1, s2, s3, s4⟩ := S.led p (List.mem_append_left _ hp)
    rw [show p.1 = a from eq] at s3
    rcases s3 with z | z
    · exact h1 z
    · rw [q] at z; cases z
  · rcases S.fresh a r1 r2 with z | ⟨xs, z⟩
    · exact T.fresh a (S.there a r1) z
    · exact .inr ⟨xs, T.b0 a _ z⟩
  · refine T.keep p.1 _ (fun hm => ?_) (by simp) (S.zin p hp)
    obtain ⟨q, hq, eq⟩ := List.mem_map.mp hm
    exact (S.led q (List.mem_append_left _ hq)).2.2.2 (List.mem_map.mpr ⟨p, hp, eq.symm⟩)
  · rcases T.lk a x q hk with z | z | ⟨ob, u, z⟩
    · exact .inl z
    · exact absurd z (by simp)
    · have z : H a = some (.frz ob u) := z
      cases r : B a with
      | none =>
        rcases T.fresh a (by show H a ≠ _; rw [z]; simp) r with this | ⟨xs, this⟩
        · rw [q] at this; cases this
        · rw [q] at this; cases this; exact hk.elim
      | some y =>
        have e1 : B' a = some y := T.b0 a y r
        rw [q] at e1; cases e1
        rcases S.lk a x r hk with z2 | z2 | z2
        · rw [z] at z2; cases z2; exact hk.elim
        · exact .inr (.inl z2)
        · exact .inr (.inr z2)
/-- .. that laid new things that may be changed -/
theorem Sy.backN {L' N' : Led} (S : Sy e B H (L ++ R)) (T : Sy ⟨L.map (·.1), [], B, H⟩ B' H' (N' ++ L')) (hl : L'.map (·.1) = L.map (·.1)) (hn : ∀ p ∈ N', H p.1 = Option.none) : (∀ p ∈ N', e.H p.1 = Option.none) ∧ Sy e B' H' (N' ++ (L' ++ R)) := by
  have S1 := S.back (T.sub (List.sublist_append_right N' L')) hl
  have h0 : ∀ p ∈ N', e.H p.1 = Option.none := fun p hp => by
    cases q : e.H p.1 with
    | none => rfl
    | some x => exact absurd (hn p hp) (S.there p.1 (by rw [q]; simp))
  refine ⟨h0, S1.b0, S1.bh, fun p hp => ?_, ?_, S1.keep, S1.fresh, S1.there, S1.zin, S1.lk, fun p hp => (List.mem_append.mp hp).elim (fun z => T.nt p (List.mem_append_left _ z)) (S1.nt p)⟩
  · rcases List.mem_append.mp hp with hp | hp
    · obtain ⟨r1, r2, r3, r4⟩ := T.led p (List.mem_append_left _ hp)
      refine ⟨r1, r2, .inr (h0 p hp), fun z => ?_⟩
      obtain ⟨q, hq, e1⟩ := List.mem_map.mp z
      have := S.zin q hq
      rw [show q.1 = p.1 from e1, hn p hp] at this; cases this
    · exact S1.led p hp
  · have nd := T.nd
    rw [List.map_append] at nd ⊢
    refine List.nodup_append.mpr ⟨(List.nodup_append.mp nd).1, S1.nd, fun a ha b hb hab => ?_⟩
    subst hab
    obtain ⟨p, hp, ep⟩ := List.mem_map.mp ha
    obtain ⟨r, hr, er⟩ := List.mem_map.mp hb
    rcases List.mem_append.mp hr with hr | hr
    · exact (List.nodup_append.mp nd).2.2 _ ha _ (List.mem_map.mpr ⟨r, hr, er⟩) rfl
    · have q1 := hn p hp
      have q2 := (S.led r (List.mem_append_right _ hr)).1
      rw [show p.1 = a from ep] at q1
      rw [show r.1 = a from er, q1] at q2
      cases q2
theorem Sy.backN0 (S : Sy e B H L) (T : Sy ⟨[], [], B, H⟩ B' H' [(a, o)]) : e.H a = Option.none ∧ Sy e B' H' ((a, o) :: L) := by
  have hn : H a = Option.none := by
    obtain ⟨_, _, r3, _⟩ := T.led (a, o) List.mem_cons_self
    rcases r3 with z | z
    · cases z
    · exact z
  obtain ⟨h1, h2⟩ := Sy.backN (L := []) (L' := []) (N' := [(a, o)]) S T rfl (fun p hp => by
    rcases List.mem_cons.mp hp with rfl | hp
    · exact hn
    · cases hp)
  exact ⟨h1 _ List.mem_cons_self, h2⟩
theorem Sy.back0 (S : Sy e B H L) (T : Sy ⟨[], [], B, H⟩ B' H' []) : Sy e B' H' L := Sy.back (L := []) (L' := []) S T rfl
theorem Sy.back1 (S : Sy e B H ((a, o) :: L)) (T : Sy ⟨[a], [], B, H⟩ B' H' [(a, o')]) : Sy e B' H' ((a, o') :: L) := Sy.back (L := [(a, o)]) (L' := [(a, o')]) S T rfl
theorem Sy.hand0 (S : Sy e B H L) : Hand B H [] := Sy.hand (L := []) (R := L) S
theorem Sy.hand1 (S : Sy e B H ((a, o) :: L)) : Hand B H [(a, o)] := Sy.hand (L := [(a, o)]) (R := L) S
end

/-! ### locks -/
section
variable {e : En} {B B' H H' : Hp} {L L' : Led} {d : Addr} {u : HO} {od : Obj}
theorem dk_frz {o : Obj} {u : HO} : ¬ Dk (.frz o u) := fun h => h
/-- a dict of the base is locked -/
theorem Sy.lock (S : Sy e B H L) (hB : B d = some u) (hk : Dk u) (hH : H d = some u) : Sy { e with Z := (d, od, u) :: e.Z } B (upd H d (.frz od u)) L := by
  refine ⟨S.b0, fun a o q => ?_, fun p hp => ?_, S.nd, fun a o h1 h2 q => ?_, S.fresh, fun a q => ?_, fun p hp => ?_, fun a o q hk2 => ?_, S.nt⟩
  · by_cases ha : a = d
    · subst ha
      rw [hB] at q; cases q
      exact .inr ⟨hk, od, upd_same⟩
    · rw [upd_ne ha]; exact S.bh a o q
  · obtain ⟨q1, q2, q3, q4⟩ := S.led p hp
    have ne : p.1 ≠ d := fun z => by rw [z, hB] at q2; cases q2
    refine ⟨by rw [upd_ne ne]; exact q1, q2, q3, fun z => ?_⟩
    rcases List.mem_cons.mp z with z | z
    · exact ne z
    · exact q4 z
  · have h2 : a ≠ d ∧ a ∉ e.Z.map (·.1) := ⟨fun z => h2 (by rw [z]; exact List.mem_cons_self), fun z => h2 (List.mem_cons_of_mem _ z)⟩
    rw [upd_ne h2.1]; exact S.keep a o h1 h2.2 q
  · by_cases ha : a = d
    · subst ha; rw [upd_same]; simp
    · rw [upd_ne ha]; exact S.there a q
  · rcases List.mem_cons.mp hp with rfl | hp
    · exact upd_same
    · have r := S.zin p hp
      have ne : p.1 ≠ d := fun z => by
        rw [z, hH] at r
        cases r
        exact hk
      rw [upd_ne ne]; exact r
  · by_cases ha : a = d
    · exact .inr (.inl (by rw [ha]; exact List.mem_cons_self))
    · rw [upd_ne ha]
      rcases S.lk a o q hk2 with z | z | z
      · exact .inl z
      · exact .inr (.inl (List.mem_cons_of_mem _ z))
      · exact .inr (.inr z)
/-- .. and let go of -/
theorem Sy.unlock (S : Sy e B H L) (hB : B d = some u) (hk : Dk u) (hH : H d = some u) (b : Same B B') (T : Sy { e with Z := (d, od, u) :: e.Z } B' H' L') : H' d = some (.frz od u) ∧ Sy e B' (upd H' d u) L' := by
  have hd : H' d = some (.frz od u) := T.zin (d, od, u) List.mem_cons_self
  refine ⟨hd, T.b0, fun a o q => ?_, fun p hp => ?_, T.nd, fun a o h1 h2 q => ?_, T.fresh, fun a q => ?_, fun p hp => ?_, fun a o q hk2 => ?_, T.nt⟩
  · by_cases ha : a = d
    · subst ha
      rw [b a u hB] at q; cases q
      exact .inl upd_same
    · rw [upd_ne ha]; exact T.bh a o q
  · obtain ⟨q1, q2, q3, q4⟩ := T.led p hp
    have ne : p.1 ≠ d := fun z => q4 (by rw [z]; exact List.mem_cons_self)
    exact ⟨by rw [upd_ne ne]; exact q1, q2, q3, fun z => q4 (List.mem_cons_of_mem _ z)⟩
  · by_cases ha : a = d
    · subst ha
      have r := S.keep a o h1 h2 q
      rw [hH] at r; cases r
      exact upd_same
    · rw [upd_ne ha]
      refine T.keep a o h1 (fun z => ?_) q
      rcases List.mem_cons.mp z with z | z
      · exact ha z
      · exact h2 z
  · by_cases ha : a = d
    · subst ha; rw [upd_same]; simp
    · rw [upd_ne ha]; exact T.there a q
  · have r := S.zin p hp
    have ne : p.1 ≠ d := fun z => by
      rw [z, hH] at r
      cases r
      exact hk
    rw [upd_ne ne]; exact T.zin p (List.mem_cons_of_mem _ hp)
  · by_cases ha : a = d
    · subst ha
      rw [b a u hB] at q; cases q
      exact .inl upd_same
    · rw [upd_ne ha]
      rcases T.lk a o q hk2 with z | z | z
      · exact .inl z
      · rcases List.mem_cons.mp z with z | z
        · exact absurd z ha
        · exact .inr (.inl z)
      · exact .inr (.inr z)
/-- a dict that was laid since stands as it is -/
theorem Sy.dk (S : Sy e B H L) (hB : B d = some u) (hk : Dk u) (hn : e.H d = Option.none) (hz : e.Z = []) : H d = some u := by
  rcases S.lk d u hB hk with z | z | ⟨_, _, z⟩
  · exact z
  · rw [hz] at z; cases z
  · rw [hn] at z; cases z
end
section
variable {e : En} {B B' H H' : Hp} {L L' : Led} {d : Addr} {o : HO} {M : List Addr}
/-- what is laid since the entry is not in the entry's base -/
theorem Sy.bnone (S : Sy e B H L) (he : e.H = H) (hd : e.H d = Option.none) : B d = Option.none := by
  cases q : B d with
  | none => rfl
  | some x =>
    rw [he] at hd
    rcases S.bh d x q with z | ⟨_, _, z⟩ <;> (rw [hd] at z; cases z)
/-- what a callee has laid is laid since the caller's entry -/
theorem Sy.newOf (S : Sy e B H L) (T : Sy ⟨M, [], B, H⟩ B' H' L') (h0 : B d = Option.none) (h1 : B' d = some o) (no : NT o := by intro _ z; cases z) : e.H d = Option.none := by
  cases q : e.H d with
  | none => rfl
  | some x =>
    have h2 : H d ≠ Option.none := S.there d (by rw [q]; simp)
    rcases T.fresh d h2 h0 with h3 | ⟨xs, h3⟩
    · rw [h1] at h3; cases h3
    · rw [h1] at h3; exact absurd (Option.some.inj h3) (no xs)
end
/-- a tuple that stands is taken into the base -/
theorem Sy.adopt {e : En} {B H : Hp} {L : Led} {p : Addr} {xs : List V} (S : Sy e B H L) (h : H p = some (.tup xs)) : ∃ B', Same B B' ∧ B' p = some (.tup xs) ∧ Sy e B' H L := by
  cases q : B p with
  | some o =>
    have : o = .tup xs := by
      rcases S.bh p o q with z | ⟨_, ob, z⟩
      · rw [h] at z; exact (Option.some.inj z).symm
      · rw [h] at z; cases z
    subst this
    exact ⟨B, Same.refl _, q, S⟩
  | none =>
    have sb : Same B (upd B p (.tup xs)) := fun a x z => by rw [upd_ne (ne_of_none z q)]; exact z
    refine ⟨_, sb, upd_same, S.b0.trans sb, fun a x z => ?_, fun r hr => ?_, S.nd, S.keep, fun a r1 r2 => ?_, S.there, S.zin, fun a x z hk => ?_, S.nt⟩
    · by_cases ha : a = p
      · subst ha; rw [upd_same] at z; cases z; exact .inl h
      · rw [upd_ne ha] at z; exact S.bh a x z
    · obtain ⟨q1, q2, q3, q4⟩ := S.led r hr
      have ne : r.1 ≠ p := fun z => by
        rw [z, h] at q1
        exact S.nt r hr xs (Option.some.inj q1).symm
      exact ⟨q1, by rw [upd_ne ne]; exact q2, q3, q4⟩
    · by_cases ha : a = p
      · subst ha; exact .inr ⟨xs, upd_same⟩
      · rw [upd_ne ha]; exact S.fresh a r1 r2
    · by_cases ha : a = p
      · subst ha; rw [upd_same] at z; cases z; exact hk.elim
      · rw [upd_ne ha] at z; exact S.lk a x z hk
/-- a promise in these words: the base, the arguments, what may be changed, and what is wanted of the base, the answer and the changed behind it -/
abbrev Ph := Hp → List V → Led → (Hp → V → Led → Prop) → Prop
def spY (φ : Ph) : Sp := fun vs H Q _ => ∃ B L, Hand B H L ∧ φ B vs L fun B' v L' => ∀ H', Sy ⟨L.map (·.1), [], B, H⟩ B' H' L' → Q v H'
end Y
/-! == and != of things that are alike and hold dicts: lists, tuples, dicts in one another. -/
namespace Y
open PySem PySem.Spec PyProof.Rows L2
/-- alike: lists or dicts or tuples of things that are alike by E -/
def AlR (K : PySem.W.Frag) (H : Hp) (E : V → V → Prop) (x y : V) : Prop :=
  EqR K H E x y ∨ ∃ a b xs ys, x = .ref a ∧ y = .ref b ∧ SqT K H a xs ∧ SqT K H b ys ∧ Paired E xs ys
/-- alike, of a nesting below n -/
def Al (K : PySem.W.Frag) (H : Hp) : Nat → V → V → Prop
  | 0 => fun _ _ => False
  | n + 1 => fun x y => (x = y ∧ flatB x = true) ∨ (∃ a, x = .ref a ∧ y = .ref a) ∨ AlR K H (Al K H n) x y
section
open PySem.SeqAt
open AutoSeq1 (wpAny_loadPart')
variable {prog : Program} {w : World}
/-- two tuples of as many things, alike one by one, are not unlike -/
theorem tup_not_ne {l b : Addr} {us ws : Array Value} {n1 n2 : Nat} {d1 d2 : Option Addr} {s1 s2 : Array (Option Value)} (hz : us.size = ws.size) :
    MeetsIn prog w (Builtin.«tuple.__ne__» ⟨[.ref l, .ref b], []⟩) fun A R s =>
      s.heap.get? l = some ⟨.type "tuple", d1, .seq us n1, s1⟩ ∧ s.heap.get? b = some ⟨.type "tuple", d2, .seq ws n2, s2⟩ ∧
        (∀ j (p : j < us.size) (q : j < ws.size), EqP prog w A.in1 s us[j] ws[j] true) ∧ R (.ok (.ret (.bool false))) s := by
  refine .of_wp fun A R s hyp => ?_
  obtain ⟨hp, g, d, tk, os⟩ := s
  obtain ⟨h1, h2, h3, h4⟩ := hyp
  have sub := AutoSeq1.sub_tuple_tuple
  wp_walk using wpAny_loadPart' h1, wpAny_loadPart' h2, wpAny_forIn_list _ (fun todo acc now => acc.1 = none ∧ now = ⟨hp, g, d, tk, os⟩ ∧ ∃ k, todo = (us.toList.zip ws.toList).drop k) _
  case turn =>
    rintro ⟨p, q⟩ todo acc now ⟨e1, e2, k, e3⟩
    subst e2
    have hk : k < (us.toList.zip ws.toList).length := Nat.lt_of_not_le fun z => by
      rw [List.drop_of_length_le z] at e3
      cases e3
    have hk1 : k < us.size := by simp at hk; omega
    have hk2 : k < ws.size := by omega
    rw [List.drop_eq_getElem_cons hk] at e3
    injection e3 with e4 e5
    have e6 : p = us[k] := by simpa using congrArg Prod.fst e4
    have e7 : q = ws[k] := by simpa using congrArg Prod.snd e4
    rw [e6, e7]
    refine wpAny_bind (h3 k hk1 hk2 _ _ ?_)
    wp_walk
    exact ⟨rfl, rfl, k + 1, e5⟩
  case fin =>
    rintro ⟨c1, c2⟩ now ⟨e1, e2, k, e3⟩
    have e1 : c1 = none := e1
    subst e1 e2
    wp_walk
    refine ⟨_, rfl, ?_⟩
    simpa [Builtin.Tuple.tupleCompareSizes, bne, hz] using h4
  case h => exact ⟨rfl, rfl, 0, rfl⟩
end
section
variable {X : Cx} {pins : List (Addr × Obj)} {σ : L2.St} {H : Hp} {s : Shared}
theorem alR_run (I : Inv X pins σ H s) {A : Around} {F : V → V → Prop} (hu : A.units < cLine) (ih : ∀ x y v u, F x y → RelV x v → RelV y u → SeqAt.EqP X.prog X.w A.in1 s v u true) {x y : V} {v u : Value} (h : AlR X.K H F x y) (rx : RelV x v) (ry : RelV y u)
    (E Q : Value → Shared → Prop) (q : Q (.bool true) s) : wpAny (model X.prog X.w) A (richCompare .Eq v u) Q E s := by
  rcases h with h | ⟨a, b, xs, ys, rfl, rfl, ha, hb, hp⟩
  · exact eqR_run I hu ih h rx ry E Q q
  · cases (show v = Value.ref a from rx)
    cases (show u = Value.ref b from ry)
    obtain ⟨us, r1, p1, _⟩ := I.tuple ha
    obtain ⟨ws, r2, p2, _⟩ := I.tuple hb
    have hl : us.length = ws.length := by rw [← r1.length, ← r2.length]; exact Paired.length hp
    refine SeqAt.rcIn_tuples (e := fun _ => true) p1 p2 hu (fun j h1 h2 => ?_) ?_
    · have k := items_run ih hp r1 r2 j (by simpa using h1) (by simpa using h2)
      have k' : SeqAt.EqP X.prog X.w A.in1 s us.toArray[j] ws.toArray[j] true := by simpa using k
      exact k'
    · have e : ((List.range (min us.toArray.size ws.toArray.size)).all (fun _ => true) && us.toArray.size == ws.toArray.size) = true := by simp [hl]
      rw [e]
      exact q
theorem al_run (I : Inv X pins σ H s) : ∀ (n : Nat) (A : Around), A.units + n < cLine → ∀ (x y : V) (v u : Value), Al X.K H n x y → RelV x v → RelV y u → SeqAt.EqP X.prog X.w A s v u true
  | 0, _, _, _, _, _, _, h, _, _ => (show False from h).elim
  | n + 1, A, hu, x, y, v, u, h, rx, ry => by
    rcases h with ⟨rfl, f⟩ | ⟨a, rfl, rfl⟩ | h
    · exact (eqAt_same rx ry f).eqP
    · cases (show v = Value.ref a from rx)
      cases (show u = Value.ref a from ry)
      exact (SeqAt.EqAt.same _).eqP
    · have go := alR_run I (A := A) (by omega) (al_run I n A.in1 (by show A.units + 1 + n < cLine; omega)) h rx ry
      have two : ∃ a b, x = .ref a ∧ y = .ref b := by
        rcases h with (⟨a, b, _, _, e1, e2, _⟩ | ⟨a, b, _, _, e1, e2, _⟩) | ⟨a, b, _, _, e1, e2, _⟩ <;> exact ⟨a, b, e1, e2⟩
      obtain ⟨a, b, rfl, rfl⟩ := two
      cases (show v = Value.ref a from rx)
      cases (show u = Value.ref b from ry)
      by_cases e : a = b
      · subst e
        exact (SeqAt.EqAt.same _).eqP
      · exact SeqAt.eqP_refs e go
end
section
variable {X : Cx}
def rEqA (K : PySem.W.Frag) : R2 := fun x y H Q => ∃ n, n ≤ 60 ∧ AlR K H (Al K H n) x y ∧ Q (.bl true) H
theorem op_eqA (hu : X.A.units + 64 < cLine) : OpR X (compareOp .Eq) (rEqA X.K) := by
  intro pins s σ H x y v u Q I rx ry h
  obtain ⟨n, hn, h, q⟩ := h
  exact alR_run I (A := X.A) (by omega) (al_run I n X.A.in1 (by show X.A.units + 1 + n < cLine; omega)) h rx ry _ _ ⟨.bl true, H, I, rfl, q⟩
/-- != of two tuples that are alike; of two dicts -/
def rNeA (K : PySem.W.Frag) : R2 := fun x y H Q => ∃ n a b xs ys, n ≤ 60 ∧ x = .ref a ∧ y = .ref b ∧ SqT K H a xs ∧ SqT K H b ys ∧ Paired (Al K H n) xs ys ∧ Q (.bl false) H
theorem op_neA (hu : X.A.units + 64 < cLine) : OpR X (compareOp .NotEq) (rNeA X.K) := by
  intro pins s σ H x y v u Q I rx ry h
  obtain ⟨n, a, b, xs, ys, hn, rfl, rfl, ha, hb, hp, q⟩ := h
  cases (show v = Value.ref a from rx)
  cases (show u = Value.ref b from ry)
  obtain ⟨us, r1, p1, _⟩ := I.tuple ha
  obtain ⟨ws, r2, p2, _⟩ := I.tuple hb
  have hl : us.length = ws.length := by rw [← r1.length, ← r2.length]; exact Paired.length hp
  have hit : ∀ j (p : j < us.toArray.size) (q : j < ws.toArray.size), SeqAt.EqP X.prog X.w X.A.in1 s us.toArray[j] ws.toArray[j] true := fun j p q => by
    have k := items_run (al_run I n X.A.in1 (by show X.A.units + 1 + n < cLine; omega)) hp r1 r2 j (by simpa using p) (by simpa using q)
    simpa using k
  obtain ⟨⟨c1, d1, dt1, s1⟩, g1, k1, m1, t1⟩ := p1
  obtain ⟨⟨c2, d2, dt2, s2⟩, g2, k2, m2, t2⟩ := p2
  have k1 : c1 = .type "tuple" := k1
  have k2 : c2 = .type "tuple" := k2
  have t1 : dt1 = .seq us.toArray m1 := t1
  have t2 : dt2 = .seq ws.toArray m2 := t2
  subst k1 k2 t1 t2
  refine wpAny_richCompare_same_room (T := "tuple") (op := .NotEq) ⟨_, g1, rfl⟩ ⟨_, g2, rfl⟩ F.slot_tuple_ne (call_meetsIn F.slot_tuple_ne ⟨_, g1, rfl⟩ F.entry_tuple_ne (F.args_tuple_ne_2 _ _) (tup_not_ne (by simp [hl])) ⟨g1, g2, hit, ?_⟩) (by omega)
  exact (show Value.bool false ≠ Value.notImplemented ∧ EP X pins σ Q (.bool false) s from ⟨fun z => (nomatch z), V.bl false, H, I, rfl, q⟩)
/-! ### a list against the empty list -/
def rEqE (K : PySem.W.Frag) : R2 := fun x y H Q => ∃ a b xs, x = .ref a ∧ y = .ref b ∧ SqL K H a xs ∧ SqL K H b [] ∧ Q (.bl xs.isEmpty) H
def rNeE (K : PySem.W.Frag) : R2 := fun x y H Q => ∃ a b xs, x = .ref a ∧ y = .ref b ∧ SqL K H a xs ∧ SqL K H b [] ∧ Q (.bl (!xs.isEmpty)) H
theorem op_eqE (hu : X.A.units + 64 < cLine) : OpR X (compareOp .Eq) (rEqE X.K) := by
  intro pins s σ H x y v u Q I rx ry h
  obtain ⟨a, b, xs, rfl, rfl, ha, hb, q⟩ := h
  cases (show v = Value.ref a from rx)
  cases (show u = Value.ref b from ry)
  obtain ⟨us, r1, p1, _⟩ := I.list ha
  obtain ⟨ws, r2, p2, _⟩ := I.list hb
  cases r2
  cases r1 with
  | nil => exact SeqAt.RcAt.lists (e := fun _ => true) p1.isList p2.isList rfl (by omega) (fun j h1 _ => absurd h1 (by simp)) X.prog X.w _ _ ⟨V.bl true, H, I, rfl, q⟩
  | cons _ _ => exact SeqAt.RcAt.lists_lengths p1.isList p2.isList (by simp) (by omega) X.prog X.w _ _ ⟨V.bl false, H, I, rfl, q⟩
theorem op_neE (hu : X.A.units + 64 < cLine) : OpR X (compareOp .NotEq) (rNeE X.K) := by
  intro pins s σ H x y v u Q I rx ry h
  obtain ⟨a, b, xs, rfl, rfl, ha, hb, q⟩ := h
  cases (show v = Value.ref a from rx)
  cases (show u = Value.ref b from ry)
  obtain ⟨us, r1, p1, _⟩ := I.list ha
  obtain ⟨ws, r2, p2, _⟩ := I.list hb
  cases r2
  cases r1 with
  | nil => exact SeqAt.RcNeAt.lists (e := fun _ => true) p1.isList p2.isList rfl (by omega) (fun j h1 _ => absurd h1 (by simp)) X.prog X.w _ _ ⟨V.bl false, H, I, rfl, q⟩
  | cons _ _ => exact SeqAt.RcNeAt.lists_lengths p1.isList p2.isList (by simp) (by omega) X.prog X.w _ _ ⟨V.bl true, H, I, rfl, q⟩
end
end Y
/-! One rule for each operator, whatever the kinds; the walk picks by the values. -/
namespace Y
open PySem PySem.Spec PyProof.Rows L2
section
variable {X : Cx}

/-! ### great powers -/
def CPowW (i j : Int) : Prop := 0 ≤ j ∧ j ≤ 100 ∧ i.natAbs.log2 < 100000
theorem pow_ok {i j : Int} {b : Nat} (ha : i.natAbs < 2 ^ b) (h0 : 0 < b) (hb : b ≤ 100000) (h1 : 0 ≤ j) (h2 : j ≤ 100) : CPowW i j := ⟨h1, h2, Nat.lt_of_lt_of_le (PySem.Flt.log2_lt_of h0 ha) hb⟩
theorem op_powW : OpR X (binaryOp .Pow) (rI CPowW fun i j => .int (i ^ j.toNat)) := opI fun i j _ _ _ _ _ hc q => by
  refine pow_int hc.1 ?_ q
  have hb : Builtin.Int.intBits i ≤ i.natAbs.log2 + 1 := by unfold Builtin.Int.intBits; split <;> omega
  have hl : i.natAbs.log2 < 100000 := hc.2.2
  have h2 : (Builtin.Int.intBits i : Int) ≤ 100000 := by omega
  have h3 : (Builtin.Int.intBits i : Int) * j ≤ 100000 * 100 := Int.mul_le_mul h2 hc.2.1 hc.1 (by decide)
  omega

/-! ### + -/
def rAddI : R2 := fun x y H Q => ∃ i j, x = .int i ∧ y = .int j ∧ Q (.int (i + j)) H
def rAddS : R2 := fun x y H Q => ∃ i j, x = .str i ∧ y = .str j ∧ i.length + j.length ≤ sizeLine ∧ Q (.str (i ++ j)) H
def rAddU (K : PySem.W.Frag) : R2 := fun x y H Q => rAddI x y H Q ∨ (rAddS x y H Q ∨ (rCat x y H Q ∨ rCatT K x y H Q))
theorem op_addU {K : PySem.W.Frag} (hK : X.K = K) : OpR X (binaryOp .Add) (rAddU K) := hK ▸ OpR.or (r := rAddI) op_add (OpR.or (r := rAddS) op_add_str (OpR.or op_cat op_catT))
def rSubI : R2 := fun x y H Q => ∃ i j, x = .int i ∧ y = .int j ∧ Q (.int (i - j)) H
theorem op_subU : OpR X (binaryOp .Sub) rSubI := op_sub
def rMulI : R2 := fun x y H Q => ∃ i j, x = .int i ∧ y = .int j ∧ CMul i j ∧ Q (.int (i * j)) H
theorem op_mulU : OpR X (binaryOp .Mult) rMulI := op_mul
def rDivI : R2 := fun x y H Q => ∃ i j, x = .int i ∧ y = .int j ∧ CDivW i j ∧ Q (.int (i / j)) H
theorem op_divU : OpR X (binaryOp .FloorDiv) rDivI := op_fdivW
def rModI : R2 := fun x y H Q => ∃ i j, x = .int i ∧ y = .int j ∧ 0 < j ∧ Q (.int (i % j)) H
theorem op_modU : OpR X (binaryOp .Mod) rModI := op_mod
def rPowI : R2 := fun x y H Q => ∃ i j, x = .int i ∧ y = .int j ∧ CPowW i j ∧ Q (.int (i ^ j.toNat)) H
theorem op_powU : OpR X (binaryOp .Pow) rPowI := op_powW
def rNegI : V → Hp → VK → Prop := fun x H Q => ∃ i, x = .int i ∧ Q (.int (-i)) H
theorem un_negU : UnR X (unaryOp .USub) rNegI := un_neg

/-! ### comparisons -/
def rLtI : R2 := fun x y H Q => ∃ i j, x = .int i ∧ y = .int j ∧ Q (.bl (decide (i < j))) H
def rLtS : R2 := fun x y H Q => ∃ i j, x = .str i ∧ y = .str j ∧ Q (.bl (decide (i.cps.toList < j.cps.toList))) H
def rLtU : R2 := fun x y H Q => rLtI x y H Q ∨ rLtS x y H Q
theorem op_ltU : OpR X (compareOp .Lt) rLtU := OpR.or (r := rLtI) op_lt op_lt_str
def rLeI : R2 := fun x y H Q => ∃ i j, x = .int i ∧ y = .int j ∧ Q (.bl (decide (i ≤ j))) H
def rLeS : R2 := fun x y H Q => ∃ i j, x = .str i ∧ y = .str j ∧ Q (.bl (!decide (j.cps.toList < i.cps.toList))) H
def rLeU : R2 := fun x y H Q => rLeI x y H Q ∨ rLeS x y H Q
theorem op_leU : OpR X (compareOp .LtE) rLeU := OpR.or (r := rLeI) op_le op_le_str
def rGtI : R2 := fun x y H Q => ∃ i j, x = .int i ∧ y = .int j ∧ Q (.bl (decide (j < i))) H
theorem op_gtU : OpR X (compareOp .Gt) rGtI := op_gt
def rGeI : R2 := fun x y H Q => ∃ i j, x = .int i ∧ y = .int j ∧ Q (.bl (decide (j ≤ i))) H
theorem op_geU : OpR X (compareOp .GtE) rGeI := op_ge
def rEqU (K : PySem.W.Frag) : R2 := fun x y H Q => rEq x y H Q ∨ (rEqD K x y H Q ∨ (rEqA K x y H Q ∨ rEqE K x y H Q))
theorem op_eqU {K : PySem.W.Frag} (hK : X.K = K) (hu : X.A.units + 64 < cLine) : OpR X (compareOp .Eq) (rEqU K) := hK ▸ OpR.or op_eq (OpR.or (op_eqD hu) (OpR.or (op_eqA hu) (op_eqE hu)))
def rNeU (K : PySem.W.Frag) : R2 := fun x y H Q => rNe x y H Q ∨ (rNeD K x y H Q ∨ (rNeA K x y H Q ∨ rNeE K x y H Q))
theorem op_neU {K : PySem.W.Frag} (hK : X.K = K) (hu : X.A.units + 64 < cLine) : OpR X (compareOp .NotEq) (rNeU K) := hK ▸ OpR.or op_ne (OpR.or (op_neD hu) (OpR.or (op_neA hu) (op_neE hu)))
def rIsNU : R2 := fun x y H Q => y = .non ∧ Q (.bl (decide (x = .non))) H
theorem op_isU : OpR X (compareOp .Is) rIsNU := op_isN
def rNotNU : R2 := fun x y H Q => y = .non ∧ Q (.bl (!decide (x = .non))) H
theorem op_isnotU : OpR X (compareOp .IsNot) rNotNU := op_notN

/-! ### in -/
def rInDk : R2 := fun x y H Q => ∃ a o, y = .ref a ∧ DGet H a x o ∧ Q (.bl o.isSome) H
theorem op_inD (hu : X.A.units + 1 < cLine) : OpR X (compareOp .In) rInDk := by
  intro pins s σ H x y v u Q I rx ry h
  obtain ⟨a, o, rfl, g, q⟩ := h
  obtain rfl : u = Value.ref a := ry
  exact d_in hu I g rx fun s3 I3 => ⟨.bl o.isSome, H, I3, rfl, q⟩
def rNotInDk : R2 := fun x y H Q => ∃ a o, y = .ref a ∧ DGet H a x o ∧ Q (.bl (!o.isSome)) H
theorem op_notInD (hu : X.A.units + 1 < cLine) : OpR X (compareOp .NotIn) rNotInDk := by
  intro pins s σ H x y v u Q I rx ry h
  obtain ⟨a, o, rfl, g, q⟩ := h
  obtain rfl : u = Value.ref a := ry
  exact d_notIn hu I g rx fun s3 I3 => ⟨.bl (!o.isSome), H, I3, rfl, q⟩
def rInSg : R2 := fun x y H Q => ∃ (c : Nat) (z : Str), x = .str ⟨#[c]⟩ ∧ y = .str z ∧ Q (.bl (decide (c ∈ z.cps.toList))) H
def rNotInSg : R2 := fun x y H Q => ∃ (c : Nat) (z : Str), x = .str ⟨#[c]⟩ ∧ y = .str z ∧ Q (.bl (!decide (c ∈ z.cps.toList))) H
def rInU (K : PySem.W.Frag) : R2 := fun x y H Q => rIn K false x y H Q ∨ (rInSg x y H Q ∨ rInDk x y H Q)
theorem op_inU {K : PySem.W.Frag} (hK : X.K = K) (hu : X.A.units + 1 < cLine) : OpR X (compareOp .In) (rInU K) := hK ▸ OpR.or op_in_seq (OpR.or (r := rInSg) op_in_sign (op_inD hu))
def rNotInU (K : PySem.W.Frag) : R2 := fun x y H Q => rIn K true x y H Q ∨ (rNotInSg x y H Q ∨ rNotInDk x y H Q)
theorem op_notInU {K : PySem.W.Frag} (hK : X.K = K) (hu : X.A.units + 1 < cLine) : OpR X (compareOp .NotIn) (rNotInU K) := hK ▸ OpR.or op_notIn_seq (OpR.or (r := rNotInSg) op_notIn_sign (op_notInD hu))

/-! ### subscripts -/
def rIxD : R2 := fun x y H Q => ∃ a v, x = .ref a ∧ DGet H a y (some v) ∧ Q v H
theorem ix_dict (hu : X.A.units + 1 < cLine) : IxR X rIxD := by
  intro value slice pins s σ H x y v u Q I rx ry h hs
  obtain ⟨a, w, rfl, g, q⟩ := h
  obtain rfl : v = Value.ref a := rx
  exact tail_any (dict_typeIs I g) PySem.F.slot_dict_getitem.lookup (d_getItem hu I g ry fun w' s3 I3 rw' => ⟨w, H, I3, rw', q⟩) hs
def rIxU (K : PySem.W.Frag) : R2 := fun x y H Q => rIx K x y H Q ∨ rIxD x y H Q
theorem ix_U {K : PySem.W.Frag} (hK : X.K = K) (hu : X.A.units + 1 < cLine) : IxR X (rIxU K) := hK ▸ IxR.or ix_seq (ix_dict hu)
def rSetD : V → V → V → Hp → (Hp → Prop) → Prop := fun o i v H Q => ∃ a H', o = .ref a ∧ DPut H a i v H' ∧ Q H'
theorem set_dict (hu : X.A.units + 1 < cLine) : PSet X rSetD := by
  intro pins s σ H o i v ov iv u Q I ro ri rv h
  obtain ⟨a, H', rfl, g, q⟩ := h
  obtain rfl : ov = Value.ref a := ro
  exact d_setItem hu I g ri rv fun s4 I4 => ⟨H', I4, q⟩
def rSetU : V → V → V → Hp → (Hp → Prop) → Prop := fun o i v H Q => rSetL o i v H Q ∨ rSetD o i v H Q
theorem set_U (hu : X.A.units + 1 < cLine) : PSet X rSetU := by
  intro pins s σ H o i v ov iv u Q I ro ri rv h
  rcases h with h | h
  · exact set_list pins s σ H o i v ov iv u Q I ro ri rv h
  · exact set_dict hu pins s σ H o i v ov iv u Q I ro ri rv h
def rSlU (K : PySem.W.Frag) : V → Option Int → Option Int → Hp → VK → Prop := fun x lo hi H Q => rSlL K x lo hi H Q ∨ (∃ z, x = .str z ∧ z.length ≤ sizeLine ∧ Q (.str (cutS z lo hi)) H)
theorem sl_U {K : PySem.W.Frag} (hK : X.K = K) : SlR X (rSlU K) := hK ▸ SlR.or sl_list sl_str
/-! ### the layer's rules with K told -/
theorem pi_listK {K : PySem.W.Frag} {tg l : Expr} {tl : TE} (hK : X.K = K) (hl : PE X l tl) : PI X tg l (iList K tl) := hK ▸ pi_list hl
theorem pi_tupK {K : PySem.W.Frag} {tg l : Expr} {tl : TE} (hK : X.K = K) (hl : PE X l tl) : PI X tg l (iTup K tl) := hK ▸ pi_tup hl
theorem pi_zipK {K : PySem.W.Frag} {e e2 : Expr} {ta : TA} {p pos tpos : Pos} {elts : List Expr} {kk : Nat} (hK : X.K = K) (hg : Gl X "zip") (hm : X.mg "zip" = none) (ha : PA X [e, e2] ta)
    (hs : starEach [e, e2] X.env = (false, eval e X.env) :: starEach [e2] X.env := by rfl) (hpl : (backTo pos (starEach [e2] X.env)).any (·.1) = false := by rfl) :
    PI X (.Tuple elts kk tpos) (.Call (.Name "zip" p) [e, e2] [] pos) (iZip K ta) := hK ▸ pi_zip hg hm ha hs hpl
theorem pi_enumK {K : PySem.W.Frag} {e : Expr} {ta : TA} {p pos tpos : Pos} {elts : List Expr} {kk : Nat} (hK : X.K = K) (hg : Gl X "enumerate") (hm : X.mg "enumerate" = none) (ha : PA X [e] ta) (hs : starEach [e] X.env = [(false, eval e X.env)] := by rfl) :
    PI X (.Tuple elts kk tpos) (.Call (.Name "enumerate" p) [e] [] pos) (iEnum K ta) := hK ▸ pi_enum hg hm ha hs
theorem pg_tupK {K : PySem.W.Frag} {es : List Expr} {k : Nat} {t : TGs} {n : Nat} {pos : Pos} (hK : X.K = K) (hc : X.calm = true) (h : PGs X es t)
    (hn : (assignEach es X.env).length = n := by rfl) (hst : (assignEach es X.env).findIdx? (·.1) = none := by rfl) : PG X (.Tuple es k pos) (gTup K n t) := hK ▸ pg_tup hc h hn hst
theorem pe_bmK {K : PySem.W.Frag} {T id : String} {name : Str} {r : V → List V → Hp → VK → Prop} {o e : Expr} {es : List Expr} {to : TE} {t : TA} {apos cpos : Pos} (hK : X.K = K) (h : PE X (.Call (.Attribute o name apos) (e :: es) [] cpos) (tBM X.K T r to t)) : PE X (.Call (.Attribute o name apos) (e :: es) [] cpos) (tBM K T r to t) := hK ▸ h
theorem pe_bm0K {K : PySem.W.Frag} {T id : String} {name : Str} {r : V → List V → Hp → VK → Prop} {o : Expr} {to : TE} {apos cpos : Pos} (hK : X.K = K) (h : PE X (.Call (.Attribute o name apos) [] [] cpos) (tBM0 X.K T r to)) : PE X (.Call (.Attribute o name apos) [] [] cpos) (tBM0 K T r to) := hK ▸ h
end
end Y
/-! The walk through a reading, step by step. -/
namespace Y
open PySem PySem.Spec PyProof.Rows L2
section
variable {K : PySem.W.Frag} {σ : L2.St} {H : Hp} {Q : VK} {D : Ends} {ta tb te tc : TE} {t u : TS} {tt tu : TT} {i : Nat} {v x y : V} {r r' : R2} {g : TG} {nx bk ct : L2.St → Hp → Prop} {rt : VK} {QT : Bool → Hp → Prop} {QA : List V → Hp → Prop}

/-! ### statements -/
theorem y_seq (h : t ⟨u ⟨nx, rt, bk, ct⟩, rt, bk, ct⟩ σ H) : tSeq t u ⟨nx, rt, bk, ct⟩ σ H := h
theorem y_next (h : nx σ H) : tNext ⟨nx, rt, bk, ct⟩ σ H := h
theorem y_break (h : bk σ H) : tBreak ⟨nx, rt, bk, ct⟩ σ H := h
theorem y_cont (h : ct σ H) : tCont ⟨nx, rt, bk, ct⟩ σ H := h
theorem y_asg (h : te σ H fun x H1 => g x σ H1 nx) : tAsg te g ⟨nx, rt, bk, ct⟩ σ H := h
theorem y_gname {N : L2.St → Hp → Prop} (h : N (σ.set i (some v)) H) : gName i v σ H N := h
theorem y_drop (h : te σ H fun _ H1 => nx σ H1) : tDrop te ⟨nx, rt, bk, ct⟩ σ H := h
theorem y_ret (h : te σ H rt) : tRet te ⟨nx, rt, bk, ct⟩ σ H := h
theorem y_retN (h : rt .non H) : tRetN ⟨nx, rt, bk, ct⟩ σ H := h
theorem y_ifS (h : tt σ H fun b H1 => if b = true then t ⟨nx, rt, bk, ct⟩ σ H1 else u ⟨nx, rt, bk, ct⟩ σ H1) : tIfS tt t u ⟨nx, rt, bk, ct⟩ σ H := h
theorem y_aug {ti : TIp} (h : σ[i]? = some (some x)) (q : te σ H fun y H1 => ti x y H1 fun z H2 => nx (σ.set i (some z)) H2) : tAug i te ti ⟨nx, rt, bk, ct⟩ σ H := ⟨x, h, q⟩
theorem y_ipI {f : Int → Int → Int} {a b : Int} (q : Q (.int (f a b)) H) : ipI f (.int a) (.int b) H Q := ⟨a, b, rfl, rfl, q⟩

/-- behind a statement R holds, whatever comes then -/
theorem y_cutS {ts : TS} {R : L2.St → Hp → Prop} (h1 : ∀ nx' : L2.St → Hp → Prop, (∀ σ H, R σ H → nx' σ H) → ts ⟨nx', rt, bk, ct⟩ σ H) (h2 : ∀ σ H, R σ H → nx σ H) : ts ⟨nx, rt, bk, ct⟩ σ H := h1 nx h2
/-- behind an expression, a test -/
theorem y_cutE {R : V → Hp → Prop} (h1 : ∀ Q' : VK, (∀ v H, R v H → Q' v H) → te σ H Q') (h2 : ∀ v H, R v H → Q v H) : te σ H Q := h1 Q h2
theorem y_cutT {R : Bool → Hp → Prop} (h1 : ∀ Q' : Bool → Hp → Prop, (∀ v H, R v H → Q' v H) → tt σ H Q') (h2 : ∀ v H, R v H → QT v H) : tt σ H QT := h1 QT h2

/-! ### expressions -/
theorem y_var (h : σ[i]? = some (some v)) (q : Q v H) : tVar i σ H Q := ⟨v, h, q⟩
theorem y_c (q : Q v H) : tC v σ H Q := q
theorem y_op (h : ta σ H fun x H1 => tb σ H1 fun y H2 => r x y H2 Q) : tOp r ta tb σ H Q := h
theorem y_un {r : V → Hp → VK → Prop} (h : ta σ H fun x H1 => r x H1 Q) : tUn r ta σ H Q := h
theorem y_ifE (h : tt σ H fun c H1 => if c = true then ta σ H1 Q else tb σ H1 Q) : tIf tt ta tb σ H Q := h
theorem y_nil (h : QA [] H) : tNil σ H QA := h
theorem y_cons {tr : TA} (h : ta σ H fun x H1 => tr σ H1 fun xs H2 => QA (x :: xs) H2) : tCons ta tr σ H QA := h
theorem y_call {sp : Sp} {dvs : List V} {E : XK} {t : TA} (h : t σ H fun vs H1 => sp (vs ++ dvs) H1 Q E) : tCall sp dvs E t σ H Q := h
theorem y_callK {sp : Sp} {gV : List V → List V → List V} {E : XK} {t tk : TA} (h : t σ H fun vs H1 => tk σ H1 fun zs H2 => sp (gV vs zs) H2 Q E) : tCallK sp gV E t tk σ H Q := h
theorem y_cb {r : List V → Hp → VK → Prop} {t : TA} (h : t σ H fun vs H1 => r vs H1 Q) : tCB r t σ H Q := h
theorem y_bm {T : String} {r : V → List V → Hp → VK → Prop} {t : TA} (h : ta σ H fun x H1 => tyV K T x H1 ∧ t σ H1 fun xs H2 => r x xs H2 Q) : tBM K T r ta t σ H Q := h
theorem y_bm0 {T : String} {r : V → List V → Hp → VK → Prop} (h : ta σ H fun x H1 => tyV K T x H1 ∧ r x [] H1 Q) : tBM0 K T r ta σ H Q := h
theorem y_sl {r : V → Option Int → Option Int → Hp → VK → Prop} {tl th : TO} (h : te σ H fun x H1 => tl σ H1 fun l H2 => th σ H2 fun u H3 => r x l u H3 Q) : tSl r te tl th σ H Q := h
theorem y_nopart {QO : Option Int → Hp → Prop} (h : QO none H) : tNoPart σ H QO := h
/-- a part of a slice, an int -/
def PtK (QO : Option Int → Hp → Prop) : VK := fun x H1 => ∃ i, x = .int i ∧ QO (some i) H1
theorem y_part {QO : Option Int → Hp → Prop} (h : te σ H (PtK QO)) : tPart te σ H QO := h
theorem y_ptK {QO : Option Int → Hp → Prop} {j : Int} (h : QO (some j) H) : PtK QO (.int j) H := ⟨j, rfl, h⟩

/-! ### tests -/
/-- a bool is wanted -/
def BlK (QT : Bool → Hp → Prop) : VK := fun x H' => ∃ k, x = .bl k ∧ QT k H'
theorem y_blK {b : Bool} (h : QT b H) : BlK QT (.bl b) H := ⟨b, rfl, h⟩
theorem y_test (h : te σ H (BlK QT)) : tTest te σ H QT := h
theorem y_tB (h : te σ H (BlK QT)) : tB te σ H QT := h
theorem y_and (h : tt σ H fun c H1 => if c = true then tu σ H1 QT else QT false H1) : tAnd tt tu σ H QT := h
theorem y_or (h : tt σ H fun c H1 => if c = true then QT true H1 else tu σ H1 QT) : tOr tt tu σ H QT := h
theorem y_not (h : tt σ H fun c H1 => QT (!c) H1) : tNot tt σ H QT := h
/-- a bool among values: and, or, not -/
def AndK (tb : TE) (σ : L2.St) (Q : VK) : VK := fun x H1 => ∃ c, x = .bl c ∧ if c = true then tb σ H1 Q else Q (.bl false) H1
theorem y_andV (h : ta σ H (AndK tb σ Q)) : tAndV ta tb σ H Q := h
theorem y_andK {b : Bool} (h : if b = true then tb σ H Q else Q (.bl false) H) : AndK tb σ Q (.bl b) H := ⟨b, rfl, h⟩
def OrK (tb : TE) (σ : L2.St) (Q : VK) : VK := fun x H1 => ∃ c, x = .bl c ∧ if c = true then Q (.bl true) H1 else tb σ H1 Q
theorem y_orV (h : ta σ H (OrK tb σ Q)) : tOrV ta tb σ H Q := h
theorem y_orK {b : Bool} (h : if b = true then Q (.bl true) H else tb σ H Q) : OrK tb σ Q (.bl b) H := ⟨b, rfl, h⟩
def NotK (Q : VK) : VK := fun x H1 => ∃ c, x = .bl c ∧ Q (.bl (!c)) H1
theorem y_notV (h : ta σ H (NotK Q)) : tNotV ta σ H Q := h
theorem y_notK {b : Bool} (h : Q (.bl (!b)) H) : NotK Q (.bl b) H := ⟨b, rfl, h⟩
def ChK (r' : R2) (tc : TE) (σ : L2.St) (y : V) (Q : VK) : VK := fun z H3 => ∃ k, z = .bl k ∧ (if k = true then tc σ H3 fun w' H4 => r' y w' H4 Q else Q (.bl false) H3)
theorem y_chain (h : ta σ H fun x H1 => tb σ H1 fun y H2 => r x y H2 (ChK r' tc σ y Q)) : tChain r r' ta tb tc σ H Q := h
theorem y_chK {b : Bool} (h : if b = true then tc σ H fun w' H4 => r' y w' H4 Q else Q (.bl false) H) : ChK r' tc σ y Q (.bl b) H := ⟨b, rfl, h⟩

theorem y_ite {p : Prop} [Decidable p] {A B : Prop} (h1 : p → A) (h2 : ¬ p → B) : if decide p = true then A else B := by
  by_cases h : p
  · rw [if_pos (decide_eq_true h)]; exact h1 h
  · rw [if_neg (by simp [h])]; exact h2 h
theorem y_iteN {p : Prop} [Decidable p] {A B : Prop} (h1 : ¬ p → A) (h2 : p → B) : if (!decide p) = true then A else B := by
  by_cases h : p
  · rw [if_neg (by simp [h])]; exact h2 h
  · rw [if_pos (by simp [h])]; exact h1 h
theorem y_iteB {b : Bool} {A B : Prop} (h1 : b = true → A) (h2 : b = false → B) : if b = true then A else B := by
  cases b
  · rw [if_neg (by decide)]; exact h2 rfl
  · rw [if_pos rfl]; exact h1 rfl
theorem y_iteI {a b : Int} {A B : Prop} (h1 : a = b → A) (h2 : a ≠ b → B) : if decide (V.int a = V.int b) = true then A else B := y_ite (fun h => h1 (V.int.inj h)) fun h => h2 fun z => h (by rw [z])
theorem y_iteIN {a b : Int} {A B : Prop} (h1 : a ≠ b → A) (h2 : a = b → B) : if (!decide (V.int a = V.int b)) = true then A else B := y_iteN (fun h => h1 fun z => h (by rw [z])) fun h => h2 (V.int.inj h)
theorem y_iteS {a b : Str} {A B : Prop} (h1 : a = b → A) (h2 : a ≠ b → B) : if decide (V.str a = V.str b) = true then A else B := y_ite (fun h => h1 (V.str.inj h)) fun h => h2 fun z => h (by rw [z])
theorem y_iteSN {a b : Str} {A B : Prop} (h1 : a ≠ b → A) (h2 : a = b → B) : if (!decide (V.str a = V.str b)) = true then A else B := y_iteN (fun h => h1 fun z => h (by rw [z])) fun h => h2 (V.str.inj h)
theorem y_true {A B : Prop} (h : A) : if true = true then A else B := by rw [if_pos rfl]; exact h
theorem y_notT {A B : Prop} (h : B) : if (!true) = true then A else B := by rw [if_neg (by decide)]; exact h
theorem y_notF {A B : Prop} (h : A) : if (!false) = true then A else B := by rw [if_pos (by decide)]; exact h
theorem y_false {A B : Prop} (h : B) : if false = true then A else B := by rw [if_neg (by decide)]; exact h

/-! ### operators on values -/
theorem y_addI {i j : Int} (q : Q (.int (i + j)) H) : rAddU K (.int i) (.int j) H Q := .inl ⟨i, j, rfl, rfl, q⟩
theorem y_addS {i j : Str} (h : i.length + j.length ≤ sizeLine) (q : Q (.str (i ++ j)) H) : rAddU K (.str i) (.str j) H Q := .inr (.inl ⟨i, j, rfl, rfl, h, q⟩)
theorem y_subI {i j : Int} (q : Q (.int (i - j)) H) : rSubI (.int i) (.int j) H Q := ⟨i, j, rfl, rfl, q⟩
theorem y_mulI {i j : Int} (h : CMul i j) (q : Q (.int (i * j)) H) : rMulI (.int i) (.int j) H Q := ⟨i, j, rfl, rfl, h, q⟩
theorem y_divI {i j : Int} (h : CDivW i j) (q : Q (.int (i / j)) H) : rDivI (.int i) (.int j) H Q := ⟨i, j, rfl, rfl, h, q⟩
theorem y_modI {i j : Int} (h : 0 < j) (q : Q (.int (i % j)) H) : rModI (.int i) (.int j) H Q := ⟨i, j, rfl, rfl, h, q⟩
theorem y_powI {i j : Int} (h : CPowW i j) (q : Q (.int (i ^ j.toNat)) H) : rPowI (.int i) (.int j) H Q := ⟨i, j, rfl, rfl, h, q⟩
theorem y_negI {i : Int} (q : Q (.int (-i)) H) : rNegI (.int i) H Q := ⟨i, rfl, q⟩
theorem y_ltI {i j : Int} (q : Q (.bl (decide (i < j))) H) : rLtU (.int i) (.int j) H Q := .inl ⟨i, j, rfl, rfl, q⟩
theorem y_ltS {i j : Str} (q : Q (.bl (decide (i.cps.toList < j.cps.toList))) H) : rLtU (.str i) (.str j) H Q := .inr ⟨i, j, rfl, rfl, q⟩
theorem y_leI {i j : Int} (q : Q (.bl (decide (i ≤ j))) H) : rLeU (.int i) (.int j) H Q := .inl ⟨i, j, rfl, rfl, q⟩
theorem y_leS {i j : Str} (q : Q (.bl (!decide (j.cps.toList < i.cps.toList))) H) : rLeU (.str i) (.str j) H Q := .inr ⟨i, j, rfl, rfl, q⟩
theorem y_gtI {i j : Int} (q : Q (.bl (decide (j < i))) H) : rGtI (.int i) (.int j) H Q := ⟨i, j, rfl, rfl, q⟩
theorem y_geI {i j : Int} (q : Q (.bl (decide (j ≤ i))) H) : rGeI (.int i) (.int j) H Q := ⟨i, j, rfl, rfl, q⟩
theorem y_eqI {i j : Int} (q : Q (.bl (decide (V.int i = V.int j))) H) : rEqU K (.int i) (.int j) H Q := .inl ⟨rfl, q⟩
theorem y_eqS {i j : Str} (q : Q (.bl (decide (V.str i = V.str j))) H) : rEqU K (.str i) (.str j) H Q := .inl ⟨rfl, q⟩
theorem y_neI {i j : Int} (q : Q (.bl (!decide (V.int i = V.int j))) H) : rNeU K (.int i) (.int j) H Q := .inl ⟨rfl, q⟩
theorem y_neS {i j : Str} (q : Q (.bl (!decide (V.str i = V.str j))) H) : rNeU K (.str i) (.str j) H Q := .inl ⟨rfl, q⟩
theorem y_isN (q : Q (.bl (decide (x = .non))) H) : rIsNU x .non H Q := ⟨rfl, q⟩
theorem y_notN (q : Q (.bl (!decide (x = .non))) H) : rNotNU x .non H Q := ⟨rfl, q⟩
theorem y_isN0 (q : Q (.bl true) H) : rIsNU .non .non H Q := ⟨rfl, q⟩
theorem y_isN1 {a : Addr} (q : Q (.bl false) H) : rIsNU (.ref a) .non H Q := ⟨rfl, q⟩
theorem y_isN2 {a : Int} (q : Q (.bl false) H) : rIsNU (.int a) .non H Q := ⟨rfl, q⟩
theorem y_notN0 (q : Q (.bl false) H) : rNotNU .non .non H Q := ⟨rfl, q⟩
theorem y_notN1 {a : Addr} (q : Q (.bl true) H) : rNotNU (.ref a) .non H Q := ⟨rfl, q⟩
theorem y_notN2 {a : Int} (q : Q (.bl true) H) : rNotNU (.int a) .non H Q := ⟨rfl, q⟩
theorem y_eqD {d e : PyData} (h1 : Dp K H x d) (h2 : Dp K H y e) (s1 : SeqAt.shaped d = true) (s2 : SeqAt.shaped e = true) (q : Q (.bl (PyData.eqv d e)) H) : rEqU K x y H Q := .inr (.inl ⟨d, e, h1, h2, s1, s2, q⟩)
theorem y_neD {d e : PyData} (h1 : Dp K H x d) (h2 : Dp K H y e) (s1 : SeqAt.shaped d = true) (s2 : SeqAt.shaped e = true) (q : Q (.bl (!PyData.eqv d e)) H) : rNeU K x y H Q := .inr (.inl ⟨d, e, h1, h2, s1, s2, q⟩)
/-- != of two tuples that are alike -/
theorem y_neA {n : Nat} {a b : Addr} {xs ys : List V} (hn : n ≤ 60) (h1 : SqT K H a xs) (h2 : SqT K H b ys) (h : Paired (Al K H n) xs ys) (q : Q (.bl false) H) : rNeU K (.ref a) (.ref b) H Q := .inr (.inr (.inl ⟨n, a, b, xs, ys, hn, rfl, rfl, h1, h2, h, q⟩))
theorem y_eqA {n : Nat} (hn : n ≤ 60) (h : AlR K H (Al K H n) x y) (q : Q (.bl true) H) : rEqU K x y H Q := .inr (.inr (.inl ⟨n, hn, h, q⟩))
/-- a list and the empty list -/
theorem y_eqE {a b : Addr} {xs : List V} (h1 : SqL K H a xs) (h2 : SqL K H b []) (q : Q (.bl xs.isEmpty) H) : rEqU K (.ref a) (.ref b) H Q := .inr (.inr (.inr ⟨a, b, xs, rfl, rfl, h1, h2, q⟩))
theorem y_neE {a b : Addr} {xs : List V} (h1 : SqL K H a xs) (h2 : SqL K H b []) (q : Q (.bl (!xs.isEmpty)) H) : rNeU K (.ref a) (.ref b) H Q := .inr (.inr (.inr ⟨a, b, xs, rfl, rfl, h1, h2, q⟩))

/-! ### built-in calls -/
def rLenU (K : PySem.W.Frag) : List V → Hp → VK → Prop := fun xs H Q => (∃ x n, xs = [x] ∧ LenV K x H n ∧ Q (.int n) H) ∨ ∃ a kvs, xs = [V.ref a] ∧ Rd H a (.dK kvs) ∧ Q (.int kvs.length) H
/-- len of a dict, locked perhaps -/
theorem call_lenR {X : Cx} : CallR X (.builtin "len") (fun xs H Q => ∃ a kvs, xs = [V.ref a] ∧ Rd H a (.dK kvs) ∧ Q (.int kvs.length) H) := by
  intro pins s σ H xs us Q I r h
  obtain ⟨a, kvs, rfl, ha, q⟩ := h
  obtain ⟨u, rfl, ru⟩ := vals1 r
  obtain rfl : u = Value.ref a := ru
  exact d_len I ha fun t s2 I2 => ⟨.int kvs.length, H, I2, ⟨t, rfl⟩, q⟩
theorem call_lenU {X : Cx} {K : PySem.W.Frag} (hK : X.K = K) : CallR X (.builtin "len") (rLenU K) := hK ▸ CallR.or call_len call_lenR
theorem y_lenL {a : Addr} {xs : List V} (h : SqL K H a xs) (q : Q (.int xs.length) H) : rLenU K [.ref a] H Q := .inl ⟨_, _, rfl, .inl ⟨xs, h, rfl⟩, q⟩
theorem y_lenT {a : Addr} {xs : List V} (h : SqT K H a xs) (q : Q (.int xs.length) H) : rLenU K [.ref a] H Q := .inl ⟨_, _, rfl, .inr ⟨xs, h, rfl⟩, q⟩
theorem y_lenS {z : Str} (h : z.length ≤ sizeLine) (q : Q (.int z.length) H) : rLenU K [.str z] H Q := .inl ⟨_, _, rfl, ⟨h, rfl⟩, q⟩
theorem y_lenD {a : Addr} {kvs : List (Key × V)} (h : Rd H a (.dK kvs)) (q : Q (.int kvs.length) H) : rLenU K [.ref a] H Q := .inr ⟨a, kvs, rfl, h, q⟩
def rMax2 : List V → Hp → VK → Prop := fun xs H Q => ∃ i j, xs = [.int i, .int j] ∧ Q (.int (if j > i then j else i)) H
def rMin2 : List V → Hp → VK → Prop := fun xs H Q => ∃ i j, xs = [.int i, .int j] ∧ Q (.int (if j < i then j else i)) H
theorem call_max2U {X : Cx} (hc : X.calm = true) : CallR X (.builtin "max") rMax2 := call_max2 hc
theorem call_min2U {X : Cx} (hc : X.calm = true) : CallR X (.builtin "min") rMin2 := call_min2 hc
theorem y_max2 {i j : Int} (q : Q (.int (max i j)) H) : rMax2 [.int i, .int j] H Q := ⟨i, j, rfl, by
  have e : (if j > i then j else i) = max i j := by omega
  rw [e]; exact q⟩
theorem y_min2 {i j : Int} (q : Q (.int (min i j)) H) : rMin2 [.int i, .int j] H Q := ⟨i, j, rfl, by
  have e : (if j < i then j else i) = min i j := by omega
  rw [e]; exact q⟩
def rListOf (K : PySem.W.Frag) : List V → Hp → VK → Prop := fun xs H Q => ∃ p ys, xs = [.ref p] ∧ (SqL K H p ys ∨ SqT K H p ys) ∧ ∀ l, H l = none → Q (.ref l) (upd H l (.lst ys))
theorem call_listU {X : Cx} {K : PySem.W.Frag} (hK : X.K = K) : CallR X (.type "list") (rListOf K) := hK ▸ call_list_of
def rTupOf (K : PySem.W.Frag) : List V → Hp → VK → Prop := fun xs H Q => ∃ p ys, xs = [.ref p] ∧ ((SqL K H p ys ∧ ∀ l, H l = none → Q (.ref l) (upd H l (.tup ys))) ∨ (SqT K H p ys ∧ Q (.ref p) H))
theorem call_tupU {X : Cx} {K : PySem.W.Frag} (hK : X.K = K) : CallR X (.type "tuple") (rTupOf K) := hK ▸ call_tuple_of

/-! ### subscripts -/
theorem y_ixL {p : Addr} {xs : List V} {i : Int} (h : SqL K H p xs) (ha : atI xs i = some v) (q : Q v H) : rIxU K (.ref p) (.int i) H Q := .inl (.inl ⟨p, xs, i, v, rfl, rfl, h, ha, q⟩)
theorem y_ixT {p : Addr} {xs : List V} {i : Int} (h : SqT K H p xs) (ha : atI xs i = some v) (q : Q v H) : rIxU K (.ref p) (.int i) H Q := .inl (.inr (.inl ⟨p, xs, i, v, rfl, rfl, h, ha, q⟩))
theorem y_ixS {z : Str} {i : Int} {c : Nat} (h : z.length ≤ sizeLine) (ha : atI z.cps.toList i = some c) (q : Q (.str ⟨#[c]⟩) H) : rIxU K (.str z) (.int i) H Q := .inl (.inr (.inr ⟨z, i, c, rfl, rfl, h, ha, q⟩))
theorem y_ixD {a : Addr} {kvs : List (Key × V)} {k : Key} (h : Rd H a (.dK kvs)) (hk : y = kV k) (hv : valV kvs k = some v) (q : Q v H) : rIxU K (.ref a) y H Q := .inr ⟨a, v, rfl, .inl ⟨kvs, k, h, hk, hv.symm⟩, q⟩
theorem y_inD {a : Addr} {kvs : List (Key × V)} {k : Key} (h : Rd H a (.dK kvs)) (hk : x = kV k) (q : Q (.bl (valV kvs k).isSome) H) : rInU K x (.ref a) H Q := .inr (.inr ⟨a, _, rfl, .inl ⟨kvs, k, h, hk, rfl⟩, q⟩)
theorem y_notInD {a : Addr} {kvs : List (Key × V)} {k : Key} (h : Rd H a (.dK kvs)) (hk : x = kV k) (q : Q (.bl (!(valV kvs k).isSome)) H) : rNotInU K x (.ref a) H Q := .inr (.inr ⟨a, _, rfl, .inl ⟨kvs, k, h, hk, rfl⟩, q⟩)
theorem y_inL {a : Addr} {xs : List V} (h : SqL K H a xs) (hx : flatV x = true) (hf : xs.all flatV = true) (q : Q (.bl (inV x xs)) H) : rInU K x (.ref a) H Q := .inl ⟨a, xs, rfl, .inl h, hx, hf, q⟩
theorem y_notInL {a : Addr} {xs : List V} (h : SqL K H a xs) (hx : flatV x = true) (hf : xs.all flatV = true) (q : Q (.bl (!inV x xs)) H) : rNotInU K x (.ref a) H Q := .inl ⟨a, xs, rfl, .inl h, hx, hf, q⟩
theorem y_inSg {c : Nat} {z : Str} (q : Q (.bl (decide (c ∈ z.cps.toList))) H) : rInU K (.str ⟨#[c]⟩) (.str z) H Q := .inr (.inl ⟨c, z, rfl, rfl, q⟩)
theorem y_notInSg {c : Nat} {z : Str} (q : Q (.bl (!decide (c ∈ z.cps.toList))) H) : rNotInU K (.str ⟨#[c]⟩) (.str z) H Q := .inr (.inl ⟨c, z, rfl, rfl, q⟩)
end

/-! ### with the state -/
section
variable {K : PySem.W.Frag} {σ : L2.St} {e : En} {B H : Hp} {L : Led} {Q : VK} {ta tb te : TE} {tl : TA} {v x y : V} {xs ys : List V} {a b p : Addr} {o : HO} {QT : Bool → Hp → Prop}

/-- a thing is laid: it is wanted of each place -/
def NewK (o : HO) (Q : VK) : Hp → Prop := fun H => ∀ p, H p = none → Q (.ref p) (upd H p o)
/-- .. never changed again -/
theorem y_newI (S : Sy e B H L) (k : ∀ p B' H', Same B B' → B' p = some o → e.H p = none → Sy e B' H' L → Q (.ref p) H') : NewK o Q H := fun p hp => by
  obtain ⟨s1, s2⟩ := S.newI (o := o) hp
  refine k p _ _ s1 upd_same ?_ s2
  cases q : e.H p with
  | none => rfl
  | some x => exact absurd hp (S.there p (by rw [q]; simp))
/-- .. that may be changed -/
theorem y_newM (S : Sy e B H L) (k : ∀ p H', e.H p = none → Sy e B H' ((p, o) :: L) → Q (.ref p) H') (no : NT o := by intro _ z; cases z) : NewK o Q H := fun p hp => by
  obtain ⟨s1, s2⟩ := S.newM (o := o) hp no
  exact k p _ s1 s2
/-- .. behind the first of the ledger -/
theorem y_newM1 {q : Addr × HO} (S : Sy e B H (q :: L)) (k : ∀ p H', e.H p = none → Sy e B H' (q :: (p, o) :: L) → Q (.ref p) H') (no : NT o := by intro _ z; cases z) : NewK o Q H := y_newM S (fun p H' h S' => k p H' h S'.swap) no
theorem y_tup (h : tl σ H fun xs H1 => xs.length ≤ sizeLine ∧ NewK (.tup xs) Q H1) : tTup tl σ H Q := h
theorem y_lst (h : tl σ H fun xs H1 => xs.length ≤ sizeLine ∧ NewK (.lst xs) Q H1) : tLst tl σ H Q := h
theorem y_catL {l b : Addr} (S : Sy e B H L) (h1 : H l = some (.lst xs)) (h2 : H b = some (.lst ys)) (hl : xs.length + ys.length ≤ sizeLine) (q : NewK (.lst (xs ++ ys)) Q H) : rAddU K (.ref l) (.ref b) H Q := .inr (.inr (.inl ⟨l, b, xs, ys, rfl, rfl, h1, h2, hl, q⟩))
theorem y_listOf {p : Addr} (h : SqL K H p xs) (q : NewK (.lst xs) Q H) : rListOf K [.ref p] H Q := ⟨p, xs, rfl, .inl h, q⟩
theorem y_listOfT {p : Addr} (h : SqT K H p xs) (q : NewK (.lst xs) Q H) : rListOf K [.ref p] H Q := ⟨p, xs, rfl, .inr h, q⟩
theorem y_tupOf {p : Addr} (h : SqL K H p xs) (q : NewK (.tup xs) Q H) : rTupOf K [.ref p] H Q := ⟨p, xs, rfl, .inl ⟨h, q⟩⟩
theorem y_slL {p : Addr} {lo hi : Option Int} (h : SqL K H p xs) (q : NewK (.lst (cutV xs lo hi)) Q H) : rSlU K (.ref p) lo hi H Q := .inl ⟨p, xs, rfl, h, q⟩
theorem y_slS {z : Str} {lo hi : Option Int} (h : z.length ≤ sizeLine) (q : Q (.str (cutS z lo hi)) H) : rSlU K (.str z) lo hi H Q := .inr ⟨z, rfl, h, q⟩

/-! ### what stands -/
theorem Sy.d (S : Sy e B H L) {dd : PyData} (r : Dp K B v dd) : Dp K H v dd := Sub.d S.bh r
theorem Sy.l (S : Sy e B H L) (r : SqL K B a xs) : SqL K H a xs := S.bh.l r
theorem Sy.t (S : Sy e B H L) (r : SqT K B a xs) : SqT K H a xs := S.bh.t r
theorem Sy.rd (S : Sy e B H L) {u : HO} (r : B a = some u) : Rd H a u := S.bh.rd (.inl r)
theorem Sy.lst (S : Sy e B H L) (r : B a = some (.lst xs)) : H a = some (.lst xs) := S.bh.lst r
theorem Sy.tup (S : Sy e B H L) (r : B a = some (.tup xs)) : H a = some (.tup xs) := S.bh.tup r
theorem sqL (h : H a = some (.lst xs)) : SqL K H a xs := .inl (.inl h)
theorem sqT (h : H a = some (.tup xs)) : SqT K H a xs := .inl (.inl h)

/-! ### list methods on the ledger -/
theorem y_app0 {l : Addr} (S : Sy e B H ((l, .lst xs) :: L)) (hl : xs.length < sizeLine) (k : ∀ H', Sy e B H' ((l, .lst (xs ++ [v])) :: L) → Q .non H') : rAppend (.ref l) [v] H Q :=
  ⟨l, xs, v, rfl, rfl, S.g0, hl, k _ (S.w0 _)⟩
theorem y_app1 {l : Addr} {q : Addr × HO} (S : Sy e B H (q :: (l, .lst xs) :: L)) (hl : xs.length < sizeLine) (k : ∀ H', Sy e B H' (q :: (l, .lst (xs ++ [v])) :: L) → Q .non H') : rAppend (.ref l) [v] H Q :=
  ⟨l, xs, v, rfl, rfl, S.g1, hl, k _ (S.w1 _)⟩
theorem y_app2 {l : Addr} {q1 q2 : Addr × HO} (S : Sy e B H (q1 :: q2 :: (l, .lst xs) :: L)) (hl : xs.length < sizeLine) (k : ∀ H', Sy e B H' (q1 :: q2 :: (l, .lst (xs ++ [v])) :: L) → Q .non H') : rAppend (.ref l) [v] H Q :=
  ⟨l, xs, v, rfl, rfl, S.g2, hl, k _ (S.w2 _)⟩
theorem y_app3 {l : Addr} {q1 q2 q3 : Addr × HO} (S : Sy e B H (q1 :: q2 :: q3 :: (l, .lst xs) :: L)) (hl : xs.length < sizeLine) (k : ∀ H', Sy e B H' (q1 :: q2 :: q3 :: (l, .lst (xs ++ [v])) :: L) → Q .non H') : rAppend (.ref l) [v] H Q :=
  ⟨l, xs, v, rfl, rfl, S.g3, hl, k _ (S.w3 _)⟩
theorem tyL {l : Addr} (h : H l = some (.lst xs)) : tyV K "list" (.ref l) H := .inl ⟨rfl, _, .inl (.inl h)⟩
/-- pop at a place -/
theorem y_popAt1 {l : Addr} {q : Addr × HO} {i : Int} {j : Nat} (S : Sy e B H (q :: (l, .lst xs) :: L)) (hi : i = (j : Int)) (hj : xs[j]? = some v) (hs : xs.length ≤ sizeLine) (k : ∀ H', Sy e B H' (q :: (l, .lst (xs.eraseIdx j)) :: L) → Q v H') : rPopAt (.ref l) [.int i] H Q := by
  have h1 : j < xs.length := (List.getElem?_eq_some_iff.mp hj).1
  have h2 : sizeLine = 16777216 := sizeLine_eq
  refine ⟨l, xs, i, j, v, rfl, rfl, S.g1, by omega, by omega, ?_, hj, k _ (S.w1 _)⟩
  rw [hi]; exact PySem.StrLaws.seqIndex_nonneg (by omega) (by omega)
theorem y_popAt2 {l : Addr} {q1 q2 : Addr × HO} {i : Int} {j : Nat} (S : Sy e B H (q1 :: q2 :: (l, .lst xs) :: L)) (hi : i = (j : Int)) (hj : xs[j]? = some v) (hs : xs.length ≤ sizeLine) (k : ∀ H', Sy e B H' (q1 :: q2 :: (l, .lst (xs.eraseIdx j)) :: L) → Q v H') : rPopAt (.ref l) [.int i] H Q := by
  have h1 : j < xs.length := (List.getElem?_eq_some_iff.mp hj).1
  have h2 : sizeLine = 16777216 := sizeLine_eq
  refine ⟨l, xs, i, j, v, rfl, rfl, S.g2, by omega, by omega, ?_, hj, k _ (S.w2 _)⟩
  rw [hi]; exact PySem.StrLaws.seqIndex_nonneg (by omega) (by omega)
/-- o[i] = v -/
theorem y_gsub {to ti : TE} {tset : TSet} {N : L2.St → Hp → Prop} (h : to σ H fun o H1 => ti σ H1 fun i H2 => tset o i v H2 fun H3 => N σ H3) : gSub to ti tset v σ H N := h
theorem y_setL0 {l : Addr} {i : Int} {j : Nat} {N : Hp → Prop} (S : Sy e B H ((l, .lst xs) :: L)) (hj : ixN xs.length i = some j) (k : ∀ H', Sy e B H' ((l, .lst (xs.set j v)) :: L) → N H') : rSetU (.ref l) (.int i) v H N := .inl ⟨l, xs, i, j, rfl, rfl, S.g0, hj, k _ (S.w0 _)⟩
theorem y_setL1 {l : Addr} {q : Addr × HO} {i : Int} {j : Nat} {N : Hp → Prop} (S : Sy e B H (q :: (l, .lst xs) :: L)) (hj : ixN xs.length i = some j) (k : ∀ H', Sy e B H' (q :: (l, .lst (xs.set j v)) :: L) → N H') : rSetU (.ref l) (.int i) v H N := .inl ⟨l, xs, i, j, rfl, rfl, S.g1, hj, k _ (S.w1 _)⟩
theorem y_setD0 {d : Addr} {kvs : List (Key × V)} {kk : Key} {N : Hp → Prop} (S : Sy e B H ((d, .dK kvs) :: L)) (hk : x = kV kk) (hl : kvs.length < sizeLine) (k : ∀ H', Sy e B H' ((d, .dK (putK kvs kk v)) :: L) → N H') : rSetU (.ref d) x v H N := .inr ⟨d, _, rfl, .inl ⟨kvs, kk, S.g0, hk, hl, rfl⟩, k _ (S.w0 _)⟩
theorem y_setD1 {d : Addr} {q : Addr × HO} {kvs : List (Key × V)} {kk : Key} {N : Hp → Prop} (S : Sy e B H (q :: (d, .dK kvs) :: L)) (hk : x = kV kk) (hl : kvs.length < sizeLine) (k : ∀ H', Sy e B H' (q :: (d, .dK (putK kvs kk v)) :: L) → N H') : rSetU (.ref d) x v H N := .inr ⟨d, _, rfl, .inl ⟨kvs, kk, S.g1, hk, hl, rfl⟩, k _ (S.w1 _)⟩
theorem y_setD2 {d : Addr} {q1 q2 : Addr × HO} {kvs : List (Key × V)} {kk : Key} {N : Hp → Prop} (S : Sy e B H (q1 :: q2 :: (d, .dK kvs) :: L)) (hk : x = kV kk) (hl : kvs.length < sizeLine) (k : ∀ H', Sy e B H' (q1 :: q2 :: (d, .dK (putK kvs kk v)) :: L) → N H') : rSetU (.ref d) x v H N := .inr ⟨d, _, rfl, .inl ⟨kvs, kk, S.g2, hk, hl, rfl⟩, k _ (S.w2 _)⟩

/-! ### loops -/
def ForG (J : It) (g : TG) (tb : TS) (D : Ends) (σ : L2.St) (H : Hp) : Prop := ∃ W : Nat → Nat → L2.St → Hp → Prop, (∃ m, W 0 m σ H) ∧ ∀ i m σ H, W i m σ H →
  (J.stop i H ∧ D.nx σ H) ∨ (J.go i H ∧ ∃ N : L2.St → Hp → Prop, (∀ σ' H', N σ' H' → ∃ m', m' < m ∧ W (i + 1) m' σ' H') ∧ ∀ x H', J.yld i H x H' → g x σ H' fun σ2 H2 => tb { D with nx := N, ct := N, bk := D.nx } σ2 H2)
theorem y_for {wi : TI} {g : TG} {tb : TS} {D : Ends} (h : wi σ H fun J H1 => ForG J g tb D σ H1) : tFor wi g tb D σ H := h
theorem y_forG {J : It} {n : Nat} {G : Hp → Prop} {Y : Nat → Hp → V → Hp → Prop} {g : TG} {tb : TS} {nx bk ct : L2.St → Hp → Prop} {rt : VK} (w : Walk J n G Y) (Pv : Nat → L2.St → Hp → Prop) (h0 : Pv 0 σ H) (hG : ∀ i σ H, i ≤ n → Pv i σ H → G H)
    (hs : ∀ i x σ H H', i < n → Pv i σ H → Y i H x H' → g x σ H' fun σ2 H2 => tb ⟨Pv (i + 1), rt, nx, Pv (i + 1)⟩ σ2 H2) (hd : ∀ σ H, Pv n σ H → nx σ H) : ForG J g tb ⟨nx, rt, bk, ct⟩ σ H :=
  for_it w (D := ⟨nx, rt, bk, ct⟩) Pv h0 hG hs hd
def LcG (J : It) (g : TG) (tt : TT) (te : TE) (vs : List Nat) (σ : L2.St) (Q : VK) : Hp → Prop := fun H1 => ∀ D, H1 D = none → ∃ W : Nat → Nat → Hp → Prop, (∃ m, W 0 m (upd H1 D (.lst []))) ∧ ∀ i m H, W i m H →
  (J.stop i H ∧ Q (.ref D) H) ∨ (J.go i H ∧ ∃ Nx : Hp → Prop, (∀ H', Nx H' → ∃ m', m' < m ∧ W (i + 1) m' H') ∧ ∀ x H', J.yld i H x H' → g x (wipe σ vs) H' fun σ2 H2 => wipe σ2 vs = wipe σ vs ∧ tt σ2 H2 fun b H3 =>
    if b = true then te σ2 H3 fun y H4 => ∃ acc, H4 D = some (.lst acc) ∧ acc.length < sizeLine ∧ Nx (upd H4 D (.lst (acc ++ [y]))) else Nx H3)
theorem y_lc {wi : TI} {g : TG} {tt : TT} {vs : List Nat} (h : wi σ H fun J H1 => LcG J g tt te vs σ Q H1) : tLc wi g tt te vs σ H Q := h
/-- the item is put, the item is left out -/
def LcK (e : En) (B : Hp) (D : Addr) (Pv : Nat → Hp → List V → Led → Prop) (i : Nat) (y : V) (H4 : Hp) : Prop := ∃ B4 acc L4, Sy e B4 H4 ((D, .lst acc) :: L4) ∧ Same B B4 ∧ acc.length < sizeLine ∧ Pv (i + 1) B4 (acc ++ [y]) L4
def LcN (e : En) (B : Hp) (D : Addr) (Pv : Nat → Hp → List V → Led → Prop) (i : Nat) (H4 : Hp) : Prop := ∃ B4 acc L4, Sy e B4 H4 ((D, .lst acc) :: L4) ∧ Same B B4 ∧ Pv (i + 1) B4 acc L4
theorem y_lcG {J : It} {n : Nat} {G : Hp → Prop} {Y : Nat → Hp → V → Hp → Prop} {g : TG} {tt : TT} {vs : List Nat} (w : Walk J n G Y) (S : Sy e B H L) (Pv : Nat → Hp → List V → Led → Prop) (h0 : Pv 0 B [] L)
    (hG : ∀ i B1 H1 acc L1 D, Pv i B1 acc L1 → Same B B1 → Sy e B1 H1 ((D, .lst acc) :: L1) → G H1)
    (hs : ∀ i x B1 H1 H1' acc L1 D (Kp : VK) (Kn : Hp → Prop), i < n → Pv i B1 acc L1 → Same B B1 → e.H D = none → Sy e B1 H1 ((D, .lst acc) :: L1) → Y i H1 x H1' → (∀ y H4, LcK e B D Pv i y H4 → Kp y H4) → (∀ H4, LcN e B D Pv i H4 → Kn H4) →
      g x (wipe σ vs) H1' fun σ2 H2 => wipe σ2 vs = wipe σ vs ∧ tt σ2 H2 fun b H3 => if b = true then te σ2 H3 Kp else Kn H3)
    (hd : ∀ B1 H1 acc L1 D, Pv n B1 acc L1 → Same B B1 → e.H D = none → Sy e B1 H1 ((D, .lst acc) :: L1) → Q (.ref D) H1) : LcG J g tt te vs σ Q H := by
  intro D hD
  obtain ⟨s1, s2⟩ := S.newM (o := .lst []) hD
  refine lc_it w (fun i H1 => ∃ B1 acc L1, Sy e B1 H1 ((D, .lst acc) :: L1) ∧ Same B B1 ∧ Pv i B1 acc L1) ⟨B, [], L, s2, Same.refl B, h0⟩ ?_ ?_ ?_
  · rintro i H1 hi ⟨B1, acc, L1, S1, b1, p1⟩
    exact hG i B1 H1 acc L1 D p1 b1 S1
  · rintro i x H1 H1' hi ⟨B1, acc, L1, S1, b1, p1⟩ hy
    refine hs i x B1 H1 H1' acc L1 D _ _ hi p1 b1 s1 S1 hy (fun y H4 q => ?_) (fun H4 q => q)
    obtain ⟨B4, acc4, L4, S4, b4, l4, p4⟩ := q
    exact ⟨acc4, S4.g0, l4, B4, _, L4, S4.w0 _, b4, p4⟩
  · rintro H1 ⟨B1, acc, L1, S1, b1, p1⟩
    exact hd B1 H1 acc L1 D p1 b1 s1 S1
end
end Y
/-! Defs by their names, and their promises in the words of the state. -/
namespace Y
open PySem PySem.Spec PyProof.Rows L2

/-- the def called x keeps the promise sp (every parameter is given by place) -/
def Ok (P : Program) (w : World) (K : PySem.W.Frag) (mg : Str → Option Value) (base : Heap) (k : Nat) (x : Str) (ps : List Str) (sp : Sp) : Prop :=
  ∃ f fd, mg x = some (.ref f) ∧ PySem.W.keepIn K (.ref f) = true ∧ Binds K fd ps [] ∧ FnOk P w K mg base CX0 k f fd ps sp
/-- .. the last ones by their defaults -/
def OkD (P : Program) (w : World) (K : PySem.W.Frag) (mg : Str → Option Value) (base : Heap) (k : Nat) (x : Str) (ps : List Str) (dvs : List V) (sp : Sp) : Prop :=
  ∃ f fd ds, mg x = some (.ref f) ∧ PySem.W.keepIn K (.ref f) = true ∧ Vals dvs ds ∧ Binds K fd ps ds ∧ FnOk P w K mg base CX0 k f fd ps sp
/-- .. n by place, those called ks by name -/
def OkN (P : Program) (w : World) (K : PySem.W.Frag) (mg : Str → Option Value) (base : Heap) (k : Nat) (x : Str) (ps : List Str) (n : Nat) (ks : List Str) (gV : List V → List V → List V) (sp : Sp) : Prop :=
  ∃ f fd g, mg x = some (.ref f) ∧ PySem.W.keepIn K (.ref f) = true ∧ KBn K fd ps n ks g gV ∧ FnOk P w K mg base CX0 k f fd ps sp
section
variable {X : Cx} {k : Nat} {x : Str} {ps : List Str} {sp : Sp} {p pos : Pos} {e : Expr} {es : List Expr} {t tk : TA} {dvs : List V} {n : Nat} {ks : List Str} {gV : List V → List V → List V} {kws : List Keyword}
theorem pe_callO (O : Ok X.prog X.w X.K X.mg X.base k x ps sp) (hr : Room k X.A) (hg : Gl X x) (ha : PA X (e :: es) t) (hdb : (x == ("__debug__" : Str)) = false := by decide) (he : starEach (e :: es) X.env = (false, eval e X.env) :: starEach es X.env := by rfl) (hpl : (backTo pos (starEach es X.env)).any (·.1) = false := by rfl) :
    PE X (.Call (.Name x p) (e :: es) [] pos) (tCall sp [] E0 t) := by
  obtain ⟨f, fd, h1, h2, h3, h4⟩ := O
  exact pe_call h4 hr hg h1 h2 h3 .nil pass0 ha hdb he hpl
theorem pe_callOD (O : OkD X.prog X.w X.K X.mg X.base k x ps dvs sp) (hr : Room k X.A) (hg : Gl X x) (ha : PA X (e :: es) t) (hdb : (x == ("__debug__" : Str)) = false := by decide) (he : starEach (e :: es) X.env = (false, eval e X.env) :: starEach es X.env := by rfl) (hpl : (backTo pos (starEach es X.env)).any (·.1) = false := by rfl) :
    PE X (.Call (.Name x p) (e :: es) [] pos) (tCall sp dvs E0 t) := by
  obtain ⟨f, fd, ds, h1, h2, h0, h3, h4⟩ := O
  exact pe_call h4 hr hg h1 h2 h3 h0 pass0 ha hdb he hpl
theorem pe_callON (O : OkN X.prog X.w X.K X.mg X.base k x ps n ks gV sp) (hr : Room k X.A) (hg : Gl X x) (ha : PA X (e :: es) t) (hkw : PK X kws tk) (hall : (backToKw pos (keywordEach kws X.env)).all (·.1.isSome) = true := by rfl) (hks : (backToKw pos (keywordEach kws X.env)).filterMap (·.1) = ks := by rfl)
    (hdb : (x == ("__debug__" : Str)) = false := by decide) (he : starEach (e :: es) X.env = (false, eval e X.env) :: starEach es X.env := by rfl)
    (hpl : ((backTo pos (starEach (e :: es) X.env)).any (·.1) || (backToKw pos (keywordEach kws X.env)).any (·.1.isNone)) = false := by rfl) :
    PE X (.Call (.Name x p) (e :: es) kws pos) (tCallN n ks.length sp gV E0 t tk) := by
  obtain ⟨f, fd, g, h1, h2, h3, h4⟩ := O
  exact pe_callN h4 hr hg h1 h2 h3 pass0 ha hkw hall hks hdb he hpl
end
section
variable {P : Program} {w : World} {K : PySem.W.Frag} {mg : Str → Option Value} {base : Heap} {x : Str} {st : Stmt} {kws : List (Str × V)} {N ps : List Str} {k : Nat} {φ : Ph} {f : Addr} {dvs : List V}
/-- THE RULE for a def's body -/
theorem fnY {fd : FuncData} (F : FunD K x x (defArgs st) (defBody st) (defScope st) dvs kws f fd) (S : FnScope N ps (defScope st)) (len : ∀ B vs L k, φ B vs L k → vs.length = ps.length)
    (body : ∀ (cdv : Value) (A : Around) (outer : List Env) (s : Shared) (H : Hp) (vs : List V) (Q : VK) (E : XK) (B : Hp) (L : Led) (e : En), e.Z = [] → e.H = H → Room k (A.deeper (envOfC x (defScope st) s.heap.objs.size f cdv)) → Sy e B H L →
      (φ B vs L fun B' v L' => ∀ H', Sy e B' H' L' → Q v H') →
      ∃ t, PSs (cxOf CX0 P w K mg base N x (defScope st) f cdv A outer s H E).nox (defBody st) t ∧ t ⟨fun _ H' => Q .non H', Q, fun _ _ => False, fun _ _ => False⟩ (start N vs) H) : FnOk P w K mg base CX0 (k + 1) f fd ps (spY φ) := by
  refine F.ok S (fun vs H Q E h => ?_) (fun cdv A outer s H vs Q E hr h => ?_)
  · obtain ⟨B, L, _, h⟩ := h
    exact len _ _ _ _ h
  · obtain ⟨B, L, hh, h⟩ := h
    obtain ⟨t, h1, h2⟩ := body cdv A outer s H vs Q E B L _ rfl rfl hr hh.start h
    exact ⟨t, PSs.nox h1, h2⟩
theorem Ok.mk (F : ∃ fd, FunD K x x (defArgs st) (defBody st) (defScope st) [] kws f fd) (g : mg x = some (.ref f)) (S : FnScope N ps (defScope st))
    (hb : ∀ (kV doc pm : Value) (an : Option Addr) (cdv ct : Value) (us : List Value), us.length = ps.length → bindArgs (PySem.W.fnOf x x (defArgs st) (defBody st) (defScope st) .none kV doc pm an cdv ct) ⟨us, []⟩ = pure (ps.zip us))
    (len : ∀ B vs L k, φ B vs L k → vs.length = ps.length)
    (body : ∀ (cdv : Value) (A : Around) (outer : List Env) (s : Shared) (H : Hp) (vs : List V) (Q : VK) (E : XK) (B : Hp) (L : Led) (e : En), e.Z = [] → e.H = H → Room k (A.deeper (envOfC x (defScope st) s.heap.objs.size f cdv)) → Sy e B H L →
      (φ B vs L fun B' v L' => ∀ H', Sy e B' H' L' → Q v H') →
      ∃ t, PSs (cxOf CX0 P w K mg base N x (defScope st) f cdv A outer s H E).nox (defBody st) t ∧ t ⟨fun _ H' => Q .non H', Q, fun _ _ => False, fun _ _ => False⟩ (start N vs) H) : Ok P w K mg base (k + 1) x ps (spY φ) := by
  obtain ⟨fd, F⟩ := F
  exact ⟨f, fd, g, F.kp, F.bindsN hb, fnY F S len body⟩
theorem Ok.of {sp : Sp} (F : ∃ fd, FunD K x x (defArgs st) (defBody st) (defScope st) [] kws f fd) (g : mg x = some (.ref f))
    (hb : ∀ (kV doc pm : Value) (an : Option Addr) (cdv ct : Value) (us : List Value), us.length = ps.length → bindArgs (PySem.W.fnOf x x (defArgs st) (defBody st) (defScope st) .none kV doc pm an cdv ct) ⟨us, []⟩ = pure (ps.zip us))
    (h : ∀ fd, FunD K x x (defArgs st) (defBody st) (defScope st) [] kws f fd → FnOk P w K mg base CX0 k f fd ps sp) : Ok P w K mg base k x ps sp := by
  obtain ⟨fd, F⟩ := F
  exact ⟨f, fd, g, F.kp, F.bindsN hb, h fd F⟩
/-- called with n by place and those of ks by name, no defaults -/
theorem OkN.of {sp : Sp} {n : Nat} {ks : List Str} (gA : {α : Type} → List α → List α → List α) (F : ∃ fd, FunD K x x (defArgs st) (defBody st) (defScope st) [] kws f fd) (g : mg x = some (.ref f))
    (rel : ∀ {vs zs : List V} {us ws : List Value}, Vals vs us → Vals zs ws → Vals (gA vs zs) (gA us ws))
    (hb : ∀ (kV doc pm : Value) (an : Option Addr) (cdv ct : Value) (us ws : List Value), us.length = n → ws.length = ks.length → bindArgs (PySem.W.fnOf x x (defArgs st) (defBody st) (defScope st) .none kV doc pm an cdv ct) ⟨us, ks.zip ws⟩ = pure (ps.zip (gA us ws)))
    (h : ∀ fd, FunD K x x (defArgs st) (defBody st) (defScope st) [] kws f fd → FnOk P w K mg base CX0 k f fd ps sp) : OkN P w K mg base k x ps n ks (fun vs zs => gA vs zs) sp := by
  obtain ⟨fd, F⟩ := F
  refine ⟨f, fd, fun us ws => gA us ws, g, F.kp, ⟨fun s us ws _ h1 h2 => ?_, rel⟩, h fd F⟩
  obtain ⟨oc, od, dV, kV, doc, pm, an, cdv, ct, osl, rfl, lk, hcd, hD, hK⟩ := F.ex
  rcases hD with ⟨_, rfl⟩ | ⟨e, _⟩
  · exact .of_eq (hb kV doc pm an cdv ct us ws h1 h2)
  · exact absurd rfl e
/-- with defaults: n are written, the defaults from the j-th on fill up -/
theorem OkD.of {sp : Sp} (n j : Nat) (F : ∃ fd, FunD K x x (defArgs st) (defBody st) (defScope st) dvs kws f fd) (g : mg x = some (.ref f)) (hd : dvs ≠ []) (hn : n + (dvs.length - j) = ps.length)
    (hb : ∀ (T : Addr) (kV doc pm : Value) (an : Option Addr) (cdv ct : Value) (us its : List Value), us.length = n → its.length = dvs.length →
      ∃ kk, bindArgs (PySem.W.fnOf x x (defArgs st) (defBody st) (defScope st) (.ref T) kV doc pm an cdv ct) ⟨us, []⟩ = seqItems? (.ref T) >>= kk ∧ kk (some its.toArray) = pure (ps.zip (us ++ its.drop j)))
    (h : ∀ fd, FunD K x x (defArgs st) (defBody st) (defScope st) dvs kws f fd → FnOk P w K mg base CX0 k f fd ps sp) : OkD P w K mg base k x ps (dvs.drop j) sp := by
  obtain ⟨fd, F⟩ := F
  obtain ⟨ds, h1, h2⟩ := F.binds1 n j hd hn hb
  exact ⟨f, fd, ds, g, F.kp, h1, h2, h fd F⟩
/-- all are written -/
theorem OkD.all {sp : Sp} (O : OkD P w K mg base k x ps [] sp) : Ok P w K mg base k x ps sp := by
  obtain ⟨f, fd, ds, h1, h2, h3, h4, h5⟩ := O
  cases h3
  exact ⟨f, fd, h1, h2, h4, h5⟩
theorem OkN.ofD {sp : Sp} {n : Nat} {ks : List Str} (gA : {α : Type} → List α → List α → List α → List α) (F : ∃ fd, FunD K x x (defArgs st) (defBody st) (defScope st) dvs kws f fd) (g : mg x = some (.ref f)) (hd : dvs ≠ [])
    (rel : ∀ {vs zs ds : List V} {us ws is : List Value}, Vals vs us → Vals zs ws → Vals ds is → Vals (gA vs zs ds) (gA us ws is))
    (hb : ∀ (T : Addr) (kV doc pm : Value) (an : Option Addr) (cdv ct : Value) (us ws its : List Value), us.length = n → ws.length = ks.length → its.length = dvs.length →
      ∃ kk, bindArgs (PySem.W.fnOf x x (defArgs st) (defBody st) (defScope st) (.ref T) kV doc pm an cdv ct) ⟨us, ks.zip ws⟩ = seqItems? (.ref T) >>= kk ∧ kk (some its.toArray) = pure (ps.zip (gA us ws its)))
    (h : ∀ fd, FunD K x x (defArgs st) (defBody st) (defScope st) dvs kws f fd → FnOk P w K mg base CX0 k f fd ps sp) : OkN P w K mg base k x ps n ks (fun vs zs => gA vs zs dvs) sp := by
  obtain ⟨fd, F⟩ := F
  have hf := h fd F
  have kp := F.kp
  obtain ⟨oc, od, dV, kV, doc, pm, an, cdv, ct, osl, rfl, lk, hcd, hD, hK⟩ := F.ex
  rcases hD with ⟨e, _⟩ | ⟨_, T, o, its, m, rfl, lT, oT, rT⟩
  · exact absurd e hd
  · refine ⟨f, _, fun us ws => gA us ws its, g, kp, ⟨fun s us ws X h1 h2 => ?_, fun r1 r2 => rel r1 r2 rT⟩, hf⟩
    obtain ⟨kk, e1, e2⟩ := hb T kV doc pm an cdv ct us ws its h1 h2 rT.length.symm
    refine BindsTo.of_looks fun M => ?_
    rw [e1]
    exact looks_items X lT oT (.of_pure e2)
end
/-! ### a call, seen from the caller -/
section
variable {e : En} {B H : Hp} {L : Led} {φ : Ph} {vs : List V} {Q : VK} {E : XK} {a : Addr} {o : HO}
/-- nothing is handed over to be changed -/
theorem y_sp0 (S : Sy e B H L) (h : φ B vs [] fun B' v L' => ∀ H', Sy ⟨[], [], B, H⟩ B' H' L' → Q v H') : spY φ vs H Q E := ⟨B, [], S.hand0, h⟩
/-- the first of the ledger is handed over -/
theorem y_sp1 (S : Sy e B H ((a, o) :: L)) (h : φ B vs [(a, o)] fun B' v L' => ∀ H', Sy ⟨[a], [], B, H⟩ B' H' L' → Q v H') : spY φ vs H Q E := ⟨B, [(a, o)], S.hand1, h⟩
end
end Y
namespace Y
open PySem PySem.Spec PyProof.Rows L2
section
variable {K : PySem.W.Frag} {σ : L2.St} {e : En} {B H : Hp} {L : Led} {Q : VK} {te : TE} {ta : TA} {v x y : V} {xs ys : List V} {a b p : Addr} {R : It → Hp → Prop} {nx bk ct : L2.St → Hp → Prop} {rt : VK} {g : TG} {tb : TS}
/-! ### what is walked -/
def RngK (R : It → Hp → Prop) : List V → Hp → Prop := fun vs H1 => ∃ j : Int, vs = [.int j] ∧ -(2 ^ 62) ≤ j ∧ j < 2 ^ 62 ∧ R (Itr 0 j.toNat) H1
theorem y_irng1 (h : ta σ H (RngK R)) : iRng1 ta σ H R := h
theorem y_rngK {j : Int} (h1 : -(2 ^ 62) ≤ j) (h2 : j < 2 ^ 62) (q : R (Itr 0 j.toNat) H) : RngK R [.int j] H := ⟨j, rfl, h1, h2, q⟩
def RngK2 (R : It → Hp → Prop) : List V → Hp → Prop := fun vs H1 => ∃ i j : Int, vs = [.int i, .int j] ∧ (-(2 ^ 62) ≤ i ∧ i < 2 ^ 62 ∧ -(2 ^ 62) ≤ j ∧ j < 2 ^ 62) ∧ R (Itr i (j - i).toNat) H1
theorem y_irng2 (h : ta σ H (RngK2 R)) : iRng2 ta σ H R := h
theorem y_rngK2 {i j : Int} (h1 : -(2 ^ 62) ≤ i) (h2 : i < 2 ^ 62) (h3 : -(2 ^ 62) ≤ j) (h4 : j < 2 ^ 62) (q : R (Itr i (j - i).toNat) H) : RngK2 R [.int i, .int j] H := ⟨i, j, rfl, ⟨h1, h2, h3, h4⟩, q⟩
def LstK (K : PySem.W.Frag) (R : It → Hp → Prop) : VK := fun x H1 => ∃ a, x = .ref a ∧ (∃ xs, SqL K H1 a xs) ∧ R (Itl K a) H1
theorem y_ilist (h : te σ H (LstK K R)) : iList K te σ H R := h
theorem y_lstK (h : SqL K H a xs) (q : R (Itl K a) H) : LstK K R (.ref a) H := ⟨a, rfl, ⟨xs, h⟩, q⟩
def StrK (R : It → Hp → Prop) : VK := fun v H1 => ∃ x, v = .str x ∧ R (Its x) H1
theorem y_istr (h : te σ H (StrK R)) : iStr te σ H R := h
theorem y_strK {z : Str} (q : R (Its z) H) : StrK R (.str z) H := ⟨z, rfl, q⟩
def KeysK (R : It → Hp → Prop) : VK := fun x H1 => ∃ d o, x = .ref d ∧ ((∃ kvs, H1 d = some (.frz o (.dK kvs)) ∧ R (Itk d o kvs) H1) ∨ ∃ kvs, H1 d = some (.frz o (.dT kvs)) ∧ R (Itkt d o kvs) H1)
theorem y_ikeys (h : te σ H (KeysK R)) : iKeys te σ H R := h
theorem y_keysK {d : Addr} {o : Obj} {kvs : List (Key × V)} (h : H d = some (.frz o (.dK kvs))) (q : R (Itk d o kvs) H) : KeysK R (.ref d) H := ⟨d, o, rfl, .inl ⟨kvs, h, q⟩⟩
def ValsK (R : It → Hp → Prop) : VK := fun x H1 => ∃ d o kvs, x = .ref d ∧ H1 d = some (.frz o (.dK kvs)) ∧ R (Itd d o kvs) H1
theorem y_ivals (h : te σ H (ValsK R)) : iVals te σ H R := h
theorem y_valsK {d : Addr} {o : Obj} {kvs : List (Key × V)} (h : H d = some (.frz o (.dK kvs))) (q : R (Itd d o kvs) H) : ValsK R (.ref d) H := ⟨d, o, kvs, rfl, h, q⟩
def ItemsK (R : It → Hp → Prop) : VK := fun x H1 => ∃ d o kvs, x = .ref d ∧ H1 d = some (.frz o (.dK kvs)) ∧ R (Iti d o kvs) H1
theorem y_iitems (h : te σ H (ItemsK R)) : iItems te σ H R := h
theorem y_itemsK {d : Addr} {o : Obj} {kvs : List (Key × V)} (h : H d = some (.frz o (.dK kvs))) (q : R (Iti d o kvs) H) : ItemsK R (.ref d) H := ⟨d, o, kvs, rfl, h, q⟩
def ZipK (K : PySem.W.Frag) (R : It → Hp → Prop) : List V → Hp → Prop := fun vs H1 => ∃ a b xs ys, vs = [.ref a, .ref b] ∧ SqL K H1 a xs ∧ SqL K H1 b ys ∧ R (Itz K a b) H1
theorem y_izip (h : ta σ H (ZipK K R)) : iZip K ta σ H R := h
theorem y_zipK (h1 : SqL K H a xs) (h2 : SqL K H b ys) (q : R (Itz K a b) H) : ZipK K R [.ref a, .ref b] H := ⟨a, b, xs, ys, rfl, h1, h2, q⟩
def EnumK (K : PySem.W.Frag) (R : It → Hp → Prop) : List V → Hp → Prop := fun vs H1 => ∃ a xs, vs = [.ref a] ∧ SqL K H1 a xs ∧ R (Ite K a) H1
theorem y_ienum (h : ta σ H (EnumK K R)) : iEnum K ta σ H R := h
theorem y_enumK (h1 : SqL K H a xs) (q : R (Ite K a) H) : EnumK K R [.ref a] H := ⟨a, xs, rfl, h1, q⟩

/-! ### loops -/
theorem y_forR {lo : Int} {n : Nat} (Pv : Nat → L2.St → Hp → Prop) (h0 : Pv 0 σ H)
    (hs : ∀ i σ H, i < n → Pv i σ H → g (.int (lo + i)) σ H fun σ2 H2 => tb ⟨Pv (i + 1), rt, nx, Pv (i + 1)⟩ σ2 H2) (hd : ∀ σ H, Pv n σ H → nx σ H) : ForG (Itr lo n) g tb ⟨nx, rt, bk, ct⟩ σ H :=
  y_forG walk_range Pv h0 (fun _ _ _ _ _ => trivial) (fun i x σ H H' hi p y => by obtain ⟨y1, y2⟩ := y; subst y1 y2; exact hs i σ _ hi p) hd
theorem y_forL (Pv : Nat → L2.St → Hp → Prop) (h0 : Pv 0 σ H) (hG : ∀ i σ H, i ≤ xs.length → Pv i σ H → SqL K H a xs)
    (hs : ∀ i x σ H, xs[i]? = some x → Pv i σ H → g x σ H fun σ2 H2 => tb ⟨Pv (i + 1), rt, nx, Pv (i + 1)⟩ σ2 H2) (hd : ∀ σ H, Pv xs.length σ H → nx σ H) : ForG (Itl K a) g tb ⟨nx, rt, bk, ct⟩ σ H :=
  y_forG walk_list Pv h0 hG (fun i x σ H H' hi p y => by obtain ⟨y1, y2⟩ := y; subst y1; exact hs i x σ _ y2 p) hd
theorem y_forS {z : Str} (Pv : Nat → L2.St → Hp → Prop) (h0 : Pv 0 σ H)
    (hs : ∀ i c σ H, z.cps[i]? = some c → Pv i σ H → g (.str ⟨#[c]⟩) σ H fun σ2 H2 => tb ⟨Pv (i + 1), rt, nx, Pv (i + 1)⟩ σ2 H2) (hd : ∀ σ H, Pv z.cps.size σ H → nx σ H) : ForG (Its z) g tb ⟨nx, rt, bk, ct⟩ σ H :=
  y_forG walk_str Pv h0 (fun _ _ _ _ _ => trivial) (fun i x σ H H' hi p y => by obtain ⟨y1, c, y2, y3⟩ := y; subst y1 y3; exact hs i c σ _ y2 p) hd
/-- a new dict -/
theorem y_dnew (h : NewK (.dK []) Q H) : tDNewK σ H Q := h
/-! ### comprehensions that change nothing that stands -/
theorem range_bind {β γ : Type} (f : β → Option γ) : ∀ ys : List β, (List.range ys.length).filterMap (fun i => ys[i]?.bind f) = ys.filterMap f := by
  intro ys
  induction ys with
  | nil => rfl
  | cons y ys ih =>
    rw [List.length_cons, List.range_succ_eq_map, List.filterMap_cons, List.filterMap_map, List.filterMap_cons]
    have e : ((fun i => (y :: ys)[i]?.bind f) ∘ Nat.succ) = fun i => ys[i]?.bind f := by
      funext i
      simp
    rw [e, ih]
    simp
theorem pr_up {α β : Type} {Rep : Hp → α → β → Prop} (up : ∀ B B' a b, Same B B' → Rep B a b → Rep B' a b) {B B' : Hp} (s : Same B B') {l : List α} {m : List β} (h : Paired (Rep B) l m) : Paired (Rep B') l m := Paired.mapP h fun a b q => up B B' a b s q
theorem y_lcRel {β : Type} {J : It} {n : Nat} {G : Hp → Prop} {Y : Nat → Hp → V → Hp → Prop} {tt : TT} {vs : List Nat} (Rep : Hp → V → β → Prop) (up : ∀ B B' v b, Same B B' → Rep B v b → Rep B' v b) (w : Walk J n G Y) (S : Sy e B H L) (hn : n ≤ 100000) (spec : Nat → Option β)
    (hG : ∀ B1 H1 D acc, Same B B1 → Sy e B1 H1 ((D, .lst acc) :: L) → G H1)
    (hs : ∀ i x B1 H1 H1' acc D (Kp : VK) (Kn : Hp → Prop), i < n → Same B B1 → Sy e B1 H1 ((D, .lst acc) :: L) → Y i H1 x H1' → (∀ y b B4 H4, spec i = some b → Same B1 B4 → Rep B4 y b → Sy e B4 H4 ((D, .lst acc) :: L) → Kp y H4) →
      (∀ B4 H4, spec i = none → Same B1 B4 → Sy e B4 H4 ((D, .lst acc) :: L) → Kn H4) → g x (wipe σ vs) H1' fun σ2 H2 => wipe σ2 vs = wipe σ vs ∧ tt σ2 H2 fun b H3 => if b = true then te σ2 H3 Kp else Kn H3)
    (hd : ∀ B1 H1 acc D, Same B B1 → e.H D = none → Paired (Rep B1) acc ((List.range n).filterMap spec) → Sy e B1 H1 ((D, .lst acc) :: L) → Q (.ref D) H1) : LcG J g tt te vs σ Q H := by
  have hsnoc : ∀ i, (List.range (i + 1)).filterMap spec = (List.range i).filterMap spec ++ (spec i).toList := fun i => by
    rw [List.range_succ, List.filterMap_append]
    cases q : spec i <;> simp [q]
  refine y_lcG w S (fun i B1 acc L1 => L1 = L ∧ i ≤ n ∧ acc.length ≤ i ∧ Paired (Rep B1) acc ((List.range i).filterMap spec)) ⟨rfl, Nat.zero_le _, Nat.le_refl _, .nil⟩ ?_ ?_ ?_
  · rintro i B1 H1 acc L1 D ⟨rfl, _, _, _⟩ b1 S1
    exact hG B1 H1 D acc b1 S1
  · rintro i x B1 H1 H1' acc L1 D Kp Kn hi ⟨rfl, _, hl, hp⟩ b1 hD S1 hy kp kn
    refine hs i x B1 H1 H1' acc D Kp Kn hi b1 S1 hy (fun y b B4 H4 e1 b4 r S4 => ?_) (fun B4 H4 e1 b4 S4 => ?_)
    · refine kp y H4 ⟨B4, acc, L1, S4, b1.trans b4, Nat.lt_of_le_of_lt (Nat.le_trans hl (Nat.le_of_lt (Nat.lt_of_lt_of_le hi hn))) (by rw [sizeLine_eq]; decide), rfl, hi, by simp; omega, ?_⟩
      rw [hsnoc, e1]
      exact Paired.snoc (pr_up up b4 hp) r
    · refine kn H4 ⟨B4, acc, L1, S4, b1.trans b4, rfl, hi, by omega, ?_⟩
      rw [hsnoc, e1]
      simpa using pr_up up b4 hp
  · rintro B1 H1 acc L1 D ⟨rfl, _, hl, hp⟩ b1 hD S1
    exact hd B1 H1 acc D b1 hD hp S1
theorem eq_up : ∀ (B B' : Hp) (v b : V), Same B B' → v = b → v = b := fun _ _ _ _ _ h => h
theorem pr_eq : ∀ {l m : List V}, Paired (fun v b => v = b) l m → l = m
  | _, _, .nil => rfl
  | _, _, .cons h t => by rw [h, pr_eq t]
theorem y_yes {QT : Bool → Hp → Prop} (h : QT true H) : tYes σ H QT := h
theorem fm_some {α β : Type} (f : α → β) : ∀ l : List α, l.filterMap (fun i => some (f i)) = l.map f
  | [] => rfl
  | a :: l => by rw [List.filterMap_cons, List.map_cons, fm_some f l]
theorem fm_if {α : Type} (p : α → Bool) : ∀ l : List α, l.filterMap (fun r => if p r = true then some r else none) = l.filter p
  | [] => rfl
  | a :: l => by
    rw [List.filterMap_cons, List.filter_cons, fm_if p l]
    by_cases h : p a = true
    · rw [if_pos h, if_pos h]
    · rw [if_neg h, if_neg h]
theorem snoc_cases {α : Type} (l : List α) : l = [] ∨ ∃ m x, l = m ++ [x] := by
  by_cases h : l = []
  · exact .inl h
  · exact .inr ⟨l.dropLast, l.getLast h, (List.dropLast_concat_getLast h).symm⟩
end
end Y
/-! Bags, rows of a chain, tables of places: how they stand in the heap. -/
namespace Y
open PySem PySem.Spec PyProof.Rows L2
theorem lenOk {n : Nat} (h : n ≤ 100000) : n ≤ sizeLine := by rw [sizeLine_eq]; omega
theorem lenLt {n : Nat} (h : n < 100000) : n < sizeLine := by rw [sizeLine_eq]; omega

/-! ### lists, pairwise -/
section
variable {α β : Type} {F G : α → β → Prop}
theorem pr_get : ∀ {l : List α} {m : List β} {i : Nat} {b : β}, Paired F l m → m[i]? = some b → ∃ a, l[i]? = some a ∧ F a b
  | _, _, _, _, .nil, e => by simp at e
  | _, _, 0, _, .cons r _, e => by simp at e; subst e; exact ⟨_, rfl, r⟩
  | _, _, i + 1, b, .cons _ t, e => by
    obtain ⟨a, h1, h2⟩ := pr_get (i := i) (b := b) t (by simpa using e)
    exact ⟨a, by simpa using h1, h2⟩
theorem pr_getL : ∀ {l : List α} {m : List β} {i : Nat} {a : α}, Paired F l m → l[i]? = some a → ∃ b, m[i]? = some b ∧ F a b
  | _, _, _, _, .nil, e => by simp at e
  | _, _, 0, _, .cons r _, e => by simp at e; subst e; exact ⟨_, rfl, r⟩
  | _, _, i + 1, a, .cons _ t, e => by
    obtain ⟨b, h1, h2⟩ := pr_getL (i := i) (a := a) t (by simpa using e)
    exact ⟨b, by simpa using h1, h2⟩
theorem pr_app : ∀ {l : List α} {m : List β} {l' : List α} {m' : List β}, Paired F l m → Paired F l' m' → Paired F (l ++ l') (m ++ m')
  | _, _, _, _, .nil, h => h
  | _, _, _, _, .cons r t, h => .cons r (pr_app t h)
end

theorem atI_of {α : Type} {xs : List α} {i : Int} {v : α} (h0 : 0 ≤ i) (h : xs[i.toNat]? = some v) : atI xs i = some v := by
  obtain ⟨n, rfl⟩ := Int.eq_ofNat_of_zero_le h0
  exact atI_nat h
/-! ### bags -/
/-- a bag: its counter may still rise n times -/
def Bag (n : Nat) (o : HO) : Prop := ∃ x y z : Int, o = .lst [.int x, .int y, .int z] ∧ 0 ≤ y ∧ y < 2 ^ 200 ∧ 0 ≤ z ∧ z + n ≤ 2 ^ 100
theorem Bag.mono {n m : Nat} {o : HO} (h : Bag n o) (l : m ≤ n) : Bag m o := by
  obtain ⟨x, y, z, h1, h2, h3, h4, h5⟩ := h
  exact ⟨x, y, z, h1, h2, h3, h4, by omega⟩
def φ_draw : Ph := fun B vs L k => ∃ b o many n, vs = [.ref b, .int many] ∧ L = [(b, o)] ∧ Bag (n + 1) o ∧ 0 < many ∧ many < 2 ^ 100 ∧ ∀ i o', 0 ≤ i → i < many → Bag n o' → k B (.int i) [(b, o')]
theorem y_draw {e : En} {B H : Hp} {R : Led} {b : Addr} {o : HO} {n : Nat} {many : Int} {Q : VK} {E : XK} (S : Sy e B H ((b, o) :: R)) (hb : Bag (n + 1) o) (h0 : 0 < many) (h1 : many < 2 ^ 100)
    (k : ∀ i o' H', 0 ≤ i → i < many → Bag n o' → Sy e B H' ((b, o') :: R) → Q (.int i) H') : spY φ_draw [.ref b, .int many] H Q E :=
  y_sp1 S ⟨b, o, many, n, rfl, rfl, hb, h0, h1, fun i o' a1 a2 a3 H' T => k i o' H' a1 a2 a3 (S.back1 T)⟩
def φ_cell (K : PySem.W.Frag) : Ph := fun B vs L k => ∃ (a : Addr) (ns : List Int) (i : Int), vs = [.ref a, .int i] ∧ L = [] ∧ SqL K B a (ns.map V.int) ∧ 0 ≤ i ∧ ∀ c, k B (.int c) []
def φ_bag : Ph := fun B vs L k => ∃ (c p : Int), vs = [.int c, .int p] ∧ L = [] ∧ 0 ≤ p ∧ p ≤ 1000 ∧ ∀ b o, Bag 1000000 o → k B (.ref b) [(b, o)]

section
variable {K : PySem.W.Frag} {e : En} {B H : Hp} {L : Led} {Q : VK} {E : XK} {a : Addr}
theorem y_cell {ns : List Int} {i : Int} (S : Sy e B H L) (hq : SqL K B a (ns.map V.int)) (h0 : 0 ≤ i) (k : ∀ c H', Sy e B H' L → Q (.int c) H') : spY (φ_cell K) [.ref a, .int i] H Q E :=
  y_sp0 S ⟨a, ns, i, rfl, rfl, hq, h0, fun c H' T => k c H' (S.back0 T)⟩
theorem y_bag {c p : Int} (S : Sy e B H L) (h0 : 0 ≤ p) (h1 : p ≤ 1000) (k : ∀ b o H', e.H b = none → Bag 1000000 o → Sy e B H' ((b, o) :: L) → Q (.ref b) H') : spY φ_bag [.int c, .int p] H Q E :=
  y_sp0 S ⟨c, p, rfl, rfl, h0, h1, fun b o hb H' T => k b o H' (S.backN0 T).1 hb (S.backN0 T).2⟩
end

/-! ### rows -/
/-- a version: its number, its dealing, its worth -/
abbrev Ver := Int × Int × Option Int
def wV : Option Int → V
  | none => .non
  | some i => .int i
def rowV (r : Ver) : List V := [.int r.1, .int r.2.1, wV r.2.2]
def RowAt (K : PySem.W.Frag) (B : Hp) (v : V) (r : Ver) : Prop := ∃ a, v = .ref a ∧ SqT K B a (rowV r)
abbrev RowsAt (K : PySem.W.Frag) (B : Hp) (vs : List V) (rs : List Ver) : Prop := Paired (RowAt K B) vs rs
section
variable {K : PySem.W.Frag} {B B' : Hp} {v : V} {vs : List V} {r : Ver} {rs : List Ver}
theorem RowAt.up (s : Same B B') (h : RowAt K B v r) : RowAt K B' v r := by
  obtain ⟨a, h1, h2⟩ := h
  exact ⟨a, h1, up_t s h2⟩
theorem RowsAt.up (s : Same B B') (h : RowsAt K B vs rs) : RowsAt K B' vs rs := Paired.mapP h fun _ _ q => RowAt.up s q
def wD : Option Int → PyData
  | none => .none
  | some i => .int i
def rowD (r : Ver) : PyData := .tuple [.int r.1, .int r.2.1, wD r.2.2]
theorem dp_w (w : Option Int) {H : Hp} : Dp K H (wV w) (wD w) := by cases w <;> constructor
theorem RowAt.dp (h : RowAt K B v r) : Dp K B v (rowD r) := by
  obtain ⟨a, rfl, h2⟩ := h
  exact .tup h2 (.cons (.int _) (.cons (.int _) (.cons (dp_w _) .nil)))
theorem RowsAt.dps : ∀ {vs : List V} {rs : List Ver}, RowsAt K B vs rs → DpAll K B vs (rs.map rowD)
  | _, _, .nil => .nil
  | _, _, .cons r t => .cons (RowAt.dp r) (RowsAt.dps t)
end

/-! ### tables of places -/
abbrev Tab := List (Int × Int)
def enc (p : Int × Int) : Key × V := (.inl p.1, .int p.2)
def look (t : Tab) (k : Int) : Option Int := (t.find? fun p => decide (p.1 = k)).map (·.2)
theorem look_nil {k : Int} : look [] k = none := rfl
theorem look_cons {p : Int × Int} {t : Tab} {k : Int} : look (p :: t) k = if p.1 = k then some p.2 else look t k := by
  unfold look
  rw [List.find?_cons]
  by_cases h : p.1 = k
  · simp [h]
  · simp [h]
theorem valV_enc (k : Int) : ∀ t : Tab, valV (t.map enc) (.inl k) = (look t k).map V.int
  | [] => rfl
  | p :: t => by
    rw [List.map_cons, look_cons]
    by_cases h : p.1 = k
    · rw [valV_pos (show (enc p).1 = .inl k by unfold enc; rw [h]), if_pos h]; rfl
    · rw [valV_neg (show ¬ (enc p).1 = .inl k from fun z => h (Sum.inl.inj z)), if_neg h]
      exact valV_enc k t
theorem look_none {k : Int} : ∀ {t : Tab}, look t k = none ↔ k ∉ t.map (·.1)
  | [] => by simp [look]
  | p :: t => by
    rw [look_cons, List.map_cons, List.mem_cons]
    by_cases h : p.1 = k
    · rw [if_pos h]; simp [h]
    · rw [if_neg h, look_none (t := t)]
      constructor
      · rintro q (z | z)
        · exact h z.symm
        · exact q z
      · exact fun q z => q (.inr z)
theorem put_enc {t : Tab} {k v : Int} (h : k ∉ t.map (·.1)) : putK (t.map enc) (.inl k) (.int v) = (t ++ [(k, v)]).map enc := by
  rw [putK_new _ (by rw [valV_enc, look_none.mpr h]; rfl), List.map_append]
  rfl
theorem look_mem {k v : Int} : ∀ {t : Tab}, look t k = some v → (k, v) ∈ t
  | [], h => by simp [look] at h
  | p :: t, h => by
    rw [look_cons] at h
    by_cases e : p.1 = k
    · rw [if_pos e] at h
      cases h
      rw [← e]
      exact List.mem_cons_self
    · rw [if_neg e] at h
      exact List.mem_cons_of_mem _ (look_mem h)
theorem mem_look {k v : Int} : ∀ {t : Tab}, (t.map (·.1)).Nodup → (k, v) ∈ t → look t k = some v
  | [], _, h => by cases h
  | p :: t, nd, h => by
    rw [List.map_cons] at nd
    obtain ⟨h1, h2⟩ := List.nodup_cons.mp nd
    rw [look_cons]
    rcases List.mem_cons.mp h with rfl | h
    · rw [if_pos rfl]
    · have e : ¬ p.1 = k := fun z => h1 (by rw [z]; exact List.mem_map.mpr ⟨(k, v), h, rfl⟩)
      rw [if_neg e]
      exact mem_look h2 h
/-- keys unlike, from 1 to m; places unlike, from 1 to n -/
structure TabOk (m n : Int) (t : Tab) : Prop where
  nk : (t.map (·.1)).Nodup
  nv : (t.map (·.2)).Nodup
  kb : ∀ p ∈ t, 1 ≤ p.1 ∧ p.1 ≤ m
  vb : ∀ p ∈ t, 1 ≤ p.2 ∧ p.2 ≤ n
theorem TabOk.nil {m n : Int} : TabOk m n [] := ⟨by simp, by simp, fun p h => (by cases h), fun p h => (by cases h)⟩
theorem TabOk.snoc {m n n' k v : Int} {t : Tab} (h : TabOk m n t) (h1 : k ∉ t.map (·.1)) (h2 : 1 ≤ k) (h3 : k ≤ m) (h4 : n < v) (h5 : v ≤ n') (h0 : 0 ≤ n) : TabOk m n' (t ++ [(k, v)]) := by
  refine ⟨?_, ?_, fun p hp => ?_, fun p hp => ?_⟩
  · rw [List.map_append]
    refine List.nodup_append.mpr ⟨h.nk, by simp, fun a ha b hb hab => ?_⟩
    have : b = k := by simpa using hb
    subst this hab
    exact h1 ha
  · rw [List.map_append]
    refine List.nodup_append.mpr ⟨h.nv, by simp, fun a ha b hb hab => ?_⟩
    have : b = v := by simpa using hb
    subst this hab
    obtain ⟨p, hp, e⟩ := List.mem_map.mp ha
    have := (h.vb p hp).2
    rw [show p.2 = a from e] at this
    omega
  · rcases List.mem_append.mp hp with hp | hp
    · exact h.kb p hp
    · have : p = (k, v) := by simpa using hp
      subst this
      exact ⟨h2, h3⟩
  · rcases List.mem_append.mp hp with hp | hp
    · have := h.vb p hp
      exact ⟨this.1, by omega⟩
    · have : p = (k, v) := by simpa using hp
      subst this
      exact ⟨by show 1 ≤ v; omega, h5⟩
/-- a chain as drawn: numbers rising, from 1 on, dealings from 1 to m -/
structure ChOk (m last : Int) (rs : List Ver) : Prop where
  up : (rs.map (·.1)).Pairwise (· < ·)
  nb : ∀ r ∈ rs, 1 ≤ r.1 ∧ r.1 ≤ last
  db : ∀ r ∈ rs, 1 ≤ r.2.1 ∧ r.2.1 ≤ m
theorem ChOk.nil {m last : Int} : ChOk m last [] := ⟨by simp, fun r h => (by cases h), fun r h => (by cases h)⟩
theorem ChOk.snoc {m l l' : Int} {rs : List Ver} {r : Ver} (h : ChOk m l rs) (h1 : l < r.1) (h2 : r.1 ≤ l') (h3 : 1 ≤ r.2.1) (h4 : r.2.1 ≤ m) (h0 : 0 ≤ l) : ChOk m l' (rs ++ [r]) := by
  refine ⟨?_, fun q hq => ?_, fun q hq => ?_⟩
  · rw [List.map_append, List.pairwise_append]
    refine ⟨h.up, by simp, fun a ha b hb => ?_⟩
    obtain ⟨q, hq, e⟩ := List.mem_map.mp ha
    have e2 : b = r.1 := by simpa using hb
    have := (h.nb q hq).2
    rw [show q.1 = a from e] at this
    omega
  · rcases List.mem_append.mp hq with hq | hq
    · have := h.nb q hq
      exact ⟨this.1, by omega⟩
    · have : q = r := by simpa using hq
      subst this
      exact ⟨by omega, h2⟩
  · rcases List.mem_append.mp hq with hq | hq
    · exact h.db q hq
    · have : q = r := by simpa using hq
      subst this
      exact ⟨h3, h4⟩
theorem nodup_erase {α : Type} : ∀ {l : List α} {j : Nat} {x : α}, l.Nodup → l[j]? = some x → (l.eraseIdx j).Nodup ∧ x ∉ l.eraseIdx j ∧ ∀ y ∈ l.eraseIdx j, y ∈ l
  | [], _, _, _, h => by simp at h
  | a :: l, 0, x, nd, h => by
    simp at h
    subst h
    obtain ⟨h1, h2⟩ := List.nodup_cons.mp nd
    exact ⟨h2, h1, fun y hy => List.mem_cons_of_mem _ hy⟩
  | a :: l, j + 1, x, nd, h => by
    obtain ⟨h1, h2⟩ := List.nodup_cons.mp nd
    obtain ⟨q1, q2, q3⟩ := nodup_erase (j := j) (x := x) h2 (by simpa using h)
    rw [List.eraseIdx_cons_succ]
    refine ⟨List.nodup_cons.mpr ⟨fun z => h1 (q3 _ z), q1⟩, fun z => ?_, fun y hy => ?_⟩
    · rcases List.mem_cons.mp z with z | z
      · subst z
        exact h1 (List.mem_of_getElem? (show l[j]? = some x by simpa using h))
      · exact q2 z
    · rcases List.mem_cons.mp hy with rfl | hy
      · exact List.mem_cons_self
      · exact List.mem_cons_of_mem _ (q3 y hy)
theorem map_erase {α β : Type} (f : α → β) : ∀ (l : List α) (j : Nat), (l.map f).eraseIdx j = (l.eraseIdx j).map f
  | [], _ => rfl
  | _ :: _, 0 => rfl
  | a :: l, j + 1 => by rw [List.map_cons, List.eraseIdx_cons_succ, List.eraseIdx_cons_succ, List.map_cons, map_erase f l j]
end Y
/-! dict(..), sorted(..), locks, calls by names alone. -/
namespace Y
open PySem PySem.Spec PyProof.Rows L2
section
variable {X : Cx} {K : PySem.W.Frag} {σ : L2.St} {e : En} {B H : Hp} {L : Led} {Q : VK} {te : TE} {v x y : V} {xs ys : List V} {a b d p : Addr} {o : HO}

/-! ### dict(ps), dict(d) -/
def rDictP (K : PySem.W.Frag) : List V → Hp → VK → Prop := fun xs H Q => ∃ (a : Addr) (ps : List Addr) (kvs : List (Key × V)), xs = [.ref a] ∧ SqL K H a (ps.map V.ref) ∧ Paired (fun p kv => SqT K H p [kV kv.1, kv.2]) ps kvs ∧ NewK (.dK (mergeK [] kvs)) Q H
def rDictD : List V → Hp → VK → Prop := fun xs H Q => ∃ (a : Addr) (kvs : List (Key × V)), xs = [.ref a] ∧ Rd H a (.dK kvs) ∧ NewK (.dK kvs) Q H
def rDictU (K : PySem.W.Frag) : List V → Hp → VK → Prop := fun xs H Q => rDictP K xs H Q ∨ rDictD xs H Q
theorem call_dictU (hK : X.K = K) (hc : X.calm = true) : CallR X (.type "dict") (rDictU K) := hK ▸ CallR.or (r := rDictP X.K) (r' := rDictD) (call_dictP hc) call_dictD
theorem y_dictD {kvs : List (Key × V)} (h : Rd H a (.dK kvs)) (q : NewK (.dK kvs) Q H) : rDictU K [.ref a] H Q := .inr ⟨a, kvs, rfl, h, q⟩
/-- a pair of ints -/
def PairAt (B : Hp) (v : V) (p : Int × Int) : Prop := ∃ t, v = .ref t ∧ B t = some (.tup [.int p.1, .int p.2])
theorem PairAt.up (B B' : Hp) (v : V) (p : Int × Int) (s : Same B B') (h : PairAt B v p) : PairAt B' v p := by
  obtain ⟨t, h1, h2⟩ := h
  exact ⟨t, h1, s t _ h2⟩
theorem merge_enc : ∀ (t t0 : Tab), ((t0 ++ t).map (·.1)).Nodup → mergeK (t0.map enc) (t.map enc) = (t0 ++ t).map enc
  | [], t0, _ => by rw [List.append_nil]; rfl
  | p :: t, t0, h => by
    have h1 : p.1 ∉ t0.map (·.1) := fun z => by
      rw [List.map_append, List.map_cons] at h
      exact (List.nodup_append.mp h).2.2 _ z _ List.mem_cons_self rfl
    have e1 : t0 ++ p :: t = (t0 ++ [p]) ++ t := by simp
    have ih := merge_enc t (t0 ++ [p]) (by rw [← e1]; exact h)
    show mergeK (putK (t0.map enc) (.inl p.1) (.int p.2)) (t.map enc) = _
    rw [put_enc h1, ih, e1]
/-- dict(ps) of pairs of ints with unlike first ones -/
theorem y_dictP (S : Sy e B H L) {t : Tab} (h : SqL K H a xs) (hp : Paired (PairAt B) xs t) (nd : (t.map (·.1)).Nodup) (q : NewK (.dK (t.map enc)) Q H) : rDictU K [.ref a] H Q := by
  have key : ∀ {xs : List V} {t : Tab}, Paired (PairAt B) xs t → ∃ ps : List Addr, xs = ps.map V.ref ∧ Paired (fun p kv => SqT K H p [kV kv.1, kv.2]) ps (t.map enc) := by
    intro xs t hp
    induction hp with
    | nil => exact ⟨[], rfl, .nil⟩
    | cons r _ ih =>
      obtain ⟨ps, e1, e2⟩ := ih
      obtain ⟨t, rfl, h2⟩ := r
      exact ⟨t :: ps, by rw [e1]; rfl, .cons (sqT (S.tup h2)) e2⟩
  obtain ⟨ps, rfl, h2⟩ := key hp
  refine .inl ⟨a, ps, t.map enc, rfl, h, h2, ?_⟩
  rw [show mergeK [] (t.map enc) = t.map enc from merge_enc t [] (by simpa using nd)]
  exact q

theorem snoc_ind {α : Type} {P : List α → Prop} (h0 : P []) (hs : ∀ l a, P l → P (l ++ [a])) (l : List α) : P l := by
  have all : ∀ m : List α, P m.reverse := fun m => by
    induction m with
    | nil => exact h0
    | cons a m ih => rw [List.reverse_cons]; exact hs _ _ ih
  rw [← List.reverse_reverse l]
  exact all _
theorem pr_snoc {α β : Type} {F : α → β → Prop} : ∀ {l : List α} {m : List β} {b : β}, Paired F l (m ++ [b]) → ∃ l' a, l = l' ++ [a] ∧ F a b
  | _, [], _, .cons r .nil => ⟨[], _, rfl, r⟩
  | _, _ :: m, b, .cons r h => by
    obtain ⟨l', a, e1, e2⟩ := pr_snoc (m := m) h
    exact ⟨_ :: l', a, by rw [e1]; rfl, e2⟩
/-! ### a table of places -/
theorem y_inTab (S : Sy e B H L) {t : Tab} {k : Int} (h : B d = some (.dK (t.map enc))) (q : Q (.bl (look t k).isSome) H) : rInU K (.int k) (.ref d) H Q :=
  y_inD (k := .inl k) (S.rd h) rfl (by rw [valV_enc, Option.isSome_map]; exact q)
theorem y_notInTab (S : Sy e B H L) {t : Tab} {k : Int} (h : B d = some (.dK (t.map enc))) (q : Q (.bl (!(look t k).isSome)) H) : rNotInU K (.int k) (.ref d) H Q :=
  y_notInD (k := .inl k) (S.rd h) rfl (by rw [valV_enc, Option.isSome_map]; exact q)
theorem y_ixTab (S : Sy e B H L) {t : Tab} {k z : Int} (h : B d = some (.dK (t.map enc))) (hz : look t k = some z) (q : Q (.int z) H) : rIxU K (.ref d) (.int k) H Q :=
  y_ixD (k := .inl k) (S.rd h) rfl (by rw [valV_enc, hz]; rfl) q
theorem y_inTabL {t : Tab} {k : Int} (h : Rd H d (.dK (t.map enc))) (q : Q (.bl (look t k).isSome) H) : rInU K (.int k) (.ref d) H Q :=
  y_inD (k := .inl k) h rfl (by rw [valV_enc, Option.isSome_map]; exact q)
theorem y_ixTabL {t : Tab} {k z : Int} (h : Rd H d (.dK (t.map enc))) (hz : look t k = some z) (q : Q (.int z) H) : rIxU K (.ref d) (.int k) H Q :=
  y_ixD (k := .inl k) h rfl (by rw [valV_enc, hz]; rfl) q

/-! ### sorted -/
def rSortU (K : PySem.W.Frag) : List V → Hp → VK → Prop := fun xs H Q => rSortedI K xs H Q ∨ rSortedPO K xs H Q
theorem call_sortedU (hK : X.K = K) : CallR X (.builtin "sorted") (rSortU K) := hK ▸ CallR.or cr_sortedI cr_sortedPO
theorem y_sortedI {ns : List Int} (h : SqL K H a (ns.map V.int)) (q : ∀ ns' : List Int, ns'.Perm ns → ns'.Pairwise (· ≤ ·) → NewK (.lst (ns'.map V.int)) Q H) : rSortU K [.ref a] H Q := .inl ⟨a, ns, rfl, h, fun ns' p h1 h2 hp => q ns' h1 h2 p hp⟩
/-- by the first, then by the second -/
def LexLe (p q : Int × Int) : Prop := p.1 < q.1 ∨ (p.1 = q.1 ∧ p.2 ≤ q.2)
def pairOf (H : Hp) (x : V) : Int × Int := match x with
  | .ref t => (match H t with
    | some (.tup [.int i, .int j]) => (i, j)
    | _ => (0, 0))
  | _ => (0, 0)
theorem pairOf_eq {t : Addr} {i j : Int} (h : H t = some (.tup [.int i, .int j])) : pairOf H (.ref t) = (i, j) := by
  simp only [pairOf, h]
theorem pairs_of {B H : Hp} (sb : Sub B H) : ∀ {xs : List V} {ps : List (Int × Int)}, Paired (PairAt B) xs ps → ps = xs.map (pairOf H) ∧ (∀ x ∈ xs, ∃ t, x = V.ref t ∧ B t = some (.tup [.int (pairOf H x).1, .int (pairOf H x).2]))
  | _, _, .nil => ⟨rfl, fun x h => by cases h⟩
  | _, _, .cons (b := p) r h => by
    obtain ⟨t, rfl, h2⟩ := r
    obtain ⟨e1, e2⟩ := pairs_of sb h
    have e3 : pairOf H (.ref t) = p := pairOf_eq (sb.tup h2)
    refine ⟨by rw [List.map_cons, e3, e1], fun x hx => ?_⟩
    rcases List.mem_cons.mp hx with rfl | hx
    · exact ⟨t, rfl, by rw [e3]; exact h2⟩
    · exact e2 x hx
theorem paired_map {α β : Type} {F : α → β → Prop} (f : α → β) : ∀ {l : List α}, (∀ x ∈ l, F x (f x)) → Paired F l (l.map f)
  | [], _ => .nil
  | x :: l, h => .cons (h x List.mem_cons_self) (paired_map f fun y hy => h y (List.mem_cons_of_mem _ hy))
/-- sorted(ps), ps pairs of ints -/
theorem y_sortedP (S : Sy e B H L) {ps : List (Int × Int)} (h : SqL K H a xs) (hp : Paired (PairAt B) xs ps) (q : ∀ ys qs, Paired (PairAt B) ys qs → qs.Perm ps → qs.Pairwise LexLe → ys.length = xs.length → NewK (.lst ys) Q H) : rSortU K [.ref a] H Q := by
  obtain ⟨e1, e2⟩ := pairs_of S.bh hp
  refine .inr ⟨a, xs, pairOf H, rfl, h, fun x hx => ?_, fun ys p h1 h2 hn => ?_⟩
  · obtain ⟨t, h3, h4⟩ := e2 x hx
    exact ⟨t, h3, S.tup h4⟩
  · refine q ys (ys.map (pairOf H)) (paired_map _ fun x hx => ?_) ?_ ?_ h2.perm.length_eq p hn
    · exact e2 x (h2.perm.mem_iff.mp hx)
    · rw [e1]; exact h2.perm.map _
    · rw [List.pairwise_map]
      refine List.Pairwise.imp (fun {u w} z => ?_) h1
      have z2 := SrtO.lexB_no.mp z
      unfold LexLe
      omega

/-! ### sums, all, any of made lists -/
theorem cr_sumU (hK : X.K = K) (hc : X.calm = true) : CallR X (.builtin "sum") (rSum K) := hK ▸ cr_sum hc
theorem cr_allU (hK : X.K = K) (hc : X.calm = true) : CallR X (.builtin "all") (rAll K) := hK ▸ cr_all hc
theorem cr_anyU (hK : X.K = K) (hc : X.calm = true) : CallR X (.builtin "any") (rAny K) := hK ▸ cr_any hc
theorem y_sum {ns : List Int} (h : SqL K H a (ns.map V.int)) (q : Q (.int ns.sum) H) : rSum K [.ref a] H Q := ⟨a, ns, rfl, h, q⟩
theorem y_all {bs : List Bool} (h : SqL K H a (bs.map V.bl)) (q : Q (.bl (bs.all id)) H) : rAll K [.ref a] H Q := ⟨a, bs, rfl, h, q⟩
theorem y_any {bs : List Bool} (h : SqL K H a (bs.map V.bl)) (q : Q (.bl (bs.any id)) H) : rAny K [.ref a] H Q := ⟨a, bs, rfl, h, q⟩

/-! ### alike -/
theorem al_refs {n : Nat} : ∀ {ws : List V} {rs : List Ver}, RowsAt K B ws rs → Paired (Al K H (n + 1)) ws ws
  | _, _, .nil => .nil
  | _, _, .cons ⟨a, e, _⟩ h => .cons (.inr (.inl ⟨a, e, e⟩)) (al_refs h)
theorem al_list {n : Nat} {a b : Addr} (h1 : SqL K H a xs) (h2 : SqL K H b ys) (h : Paired (Al K H n) xs ys) : Al K H (n + 1) (.ref a) (.ref b) := .inr (.inr (.inl (.inl ⟨a, b, xs, ys, rfl, rfl, h1, h2, h⟩)))
theorem al_tab {n : Nat} {a b : Addr} {t : Tab} (h1 : H a = some (.dK (t.map enc))) (h2 : H b = some (.dK (t.map enc))) (nd : (t.map (·.1)).Nodup) : Al K H (n + 2) (.ref a) (.ref b) := by
  refine .inr (.inr (.inl (.inr ⟨a, b, _, _, rfl, rfl, h1, h2, rfl, fun p hp => ?_⟩)))
  obtain ⟨q, hq, rfl⟩ := List.mem_map.mp hp
  refine ⟨.int q.2, ?_, .inl ⟨rfl, rfl⟩⟩
  show valV (t.map enc) (.inl q.1) = _
  rw [valV_enc, mem_look nd hq]
  rfl
/-! ### locks -/
/-- behind a locked expression -/
def LockK (d : Addr) (od : Obj) (u : HO) (Q : VK) : VK := fun v H' => H' d = some (.frz od u) ∧ Q v (upd H' d u)
theorem y_lockE (S : Sy e B H L) {kvs : List (Key × V)} (hB : B d = some (.dK kvs)) (hH : H d = some (.dK kvs))
    (k : ∀ od H1, H1 d = some (.frz od (.dK kvs)) → Sy { e with Z := (d, od, .dK kvs) :: e.Z } B H1 L → te σ H1 (LockK d od (.dK kvs) Q)) : tLockE te σ H Q :=
  ⟨d, .dK kvs, hH, trivial, fun od => k od _ upd_same (S.lock hB trivial hH)⟩
theorem y_lockK (S : Sy e B H L) {kvs : List (Key × V)} {B' H' : Hp} {L' : Led} {od : Obj} (hB : B d = some (.dK kvs)) (hH : H d = some (.dK kvs)) (b : Same B B') (T : Sy { e with Z := (d, od, .dK kvs) :: e.Z } B' H' L') (k : ∀ H2, Sy e B' H2 L' → Q v H2) : LockK d od (.dK kvs) Q v H' := by
  obtain ⟨h1, h2⟩ := S.unlock hB trivial hH b T
  exact ⟨h1, k _ h2⟩
/-- a dict that was laid since the entry is locked -/
theorem y_lockX (hz : e.Z = []) (S : Sy e B H L) {kvs : List (Key × V)} (hB : B d = some (.dK kvs)) (hn : e.H d = none)
    (k : ∀ od H1 e1 (Q' : VK), e1.H = e.H → H1 d = some (.frz od (.dK kvs)) → Sy e1 B H1 L → (∀ B' H' L', Sy e1 B' H' L' → H' d = some (.frz od (.dK kvs))) → (∀ v B' H' L', Same B B' → Sy e1 B' H' L' → (∀ H2, Sy e B' H2 L' → Q v H2) → Q' v H') → te σ H1 Q') : tLockE te σ H Q := by
  have hH := S.dk hB trivial hn hz
  exact y_lockE S hB hH fun od H1 h1 S1 => k od H1 { e with Z := (d, od, .dK kvs) :: e.Z } _ rfl h1 S1 (fun B' H' L' T => T.zin (d, od, .dK kvs) List.mem_cons_self) fun v B' H' L' b T q => y_lockK S hB hH b T q
end
/-! ### a call by names alone -/
section
variable {X : Cx} {k : Nat} {x : Str} {ps : List Str} {sp : Sp} {p pos : Pos} {tk : TA} {ks : List Str} {gV : List V → List V → List V} {kws : List Keyword}
theorem pe_callON0 (O : OkN X.prog X.w X.K X.mg X.base k x ps 0 ks gV sp) (hr : Room k X.A) (hg : Gl X x) (hkw : PK X kws tk) (hall : (backToKw pos (keywordEach kws X.env)).all (·.1.isSome) = true := by rfl) (hks : (backToKw pos (keywordEach kws X.env)).filterMap (·.1) = ks := by rfl)
    (hdb : (x == ("__debug__" : Str)) = false := by decide) (hpl : ((backTo pos (starEach [] X.env)).any (·.1) || (backToKw pos (keywordEach kws X.env)).any (·.1.isNone)) = false := by rfl) :
    PE X (.Call (.Name x p) [] kws pos) (tCallN 0 ks.length sp gV E0 tNil tk) := by
  obtain ⟨f, fd, g, h1, h2, h3, h4⟩ := O
  refine ⟨fun pins s σ H Q I h => ?_⟩
  refine wpAny_Call_Name_kw (ld_glob I hg h1 ?_ hdb)
  refine PySem.W.callWith_KW0 (h₀ := X.base) I.ok.mod.kin h2 hall ?_ hpl
  refine thn (hkw.run pos pins s σ H _ I h) fun ws s2 ⟨zs, H2, I2, rz, l1, l2, q2⟩ => ⟨I2.kIn, ?_⟩
  rw [hks]
  exact run_fnN h4 hr h3 pass0 I2 .nil rz l1 l2 q2
end
section
variable {σ : L2.St} {H : Hp} {Q : VK} {n m : Nat} {sp : Sp} {gV : List V → List V → List V} {E : XK} {t tk : TA} {vs zs : List V}
/-- the values of a call with names -/
def CallNK (n m : Nat) (sp : Sp) (gV : List V → List V → List V) (E : XK) (Q : VK) (vs zs : List V) (H : Hp) : Prop := vs.length = n ∧ zs.length = m ∧ sp (gV vs zs) H Q E
theorem y_callN (h : t σ H fun vs H1 => tk σ H1 fun zs H2 => CallNK n m sp gV E Q vs zs H2) : tCallN n m sp gV E t tk σ H Q := h
theorem y_callNK (h1 : vs.length = n) (h2 : zs.length = m) (h : sp (gV vs zs) H Q E) : CallNK n m sp gV E Q vs zs H := ⟨h1, h2, h⟩
end
/-! ### a version or None -/
/-- a version or None -/
def OptAt (K : PySem.W.Frag) (B : Hp) (v : V) : Option Ver → Prop
  | none => v = .non
  | some r => RowAt K B v r
theorem OptAt.up {K : PySem.W.Frag} {B B' : Hp} {v : V} {o : Option Ver} (s : Same B B') (h : OptAt K B v o) : OptAt K B' v o := by
  cases o with
  | none => exact h
  | some r => exact RowAt.up s h
def optD : Option Ver → PyData
  | none => .none
  | some r => rowD r
theorem OptAt.dp {K : PySem.W.Frag} {B : Hp} {v : V} {o : Option Ver} (h : OptAt K B v o) : ∃ dd, Dp K B v dd ∧ SeqAt.shaped dd = true ∧ PyData.eqv dd dd = true ∧ dd = optD o := by
  cases o with
  | none =>
    have h : v = .non := h
    subst h
    exact ⟨.none, .non, rfl, rfl, rfl⟩
  | some r =>
    refine ⟨rowD r, RowAt.dp h, ?_, ?_, rfl⟩
    · obtain ⟨a, b, c⟩ := r
      cases c <;> rfl
    · obtain ⟨a, b, c⟩ := r
      cases c <;> simp [rowD, wD, PyData.eqv, PyData.eqvAll]
theorem y_eqOpt {K : PySem.W.Frag} {e : En} {B H : Hp} {L : Led} {Q : VK} {v u : V} {o : Option Ver} (S : Sy e B H L) (h1 : OptAt K B v o) (h2 : OptAt K B u o) (q : Q (.bl true) H) : rEqU K v u H Q := by
  obtain ⟨d1, a1, a2, a3, a4⟩ := h1.dp
  obtain ⟨d2, b1, b2, b3, b4⟩ := h2.dp
  have e : d1 = d2 := a4.trans b4.symm
  subst e
  exact y_eqD (S.d a1) (S.d b1) a2 a2 (by rw [a3]; exact q)
theorem y_neOpt {K : PySem.W.Frag} {e : En} {B H : Hp} {L : Led} {Q : VK} {v u : V} {o : Option Ver} (S : Sy e B H L) (h1 : OptAt K B v o) (h2 : OptAt K B u o) (q : Q (.bl false) H) : rNeU K v u H Q := by
  obtain ⟨d1, a1, a2, a3, a4⟩ := h1.dp
  obtain ⟨d2, b1, b2, b3, b4⟩ := h2.dp
  have e : d1 = d2 := a4.trans b4.symm
  subst e
  exact y_neD (S.d a1) (S.d b1) a2 a2 (by rw [a3]; exact q)
/-! ### the law's own promise -/
def φ_law (K : PySem.W.Frag) : Ph := fun B vs L k => ∃ (a : Addr) (ns : List Int), vs = [.ref a] ∧ L = [] ∧ SqL K B a (ns.map V.int) ∧ ns.length ≤ 63 ∧ ∀ B', Same B B' → k B' (.bl true) []
end Y
/-! max(d.values(), default=c), the values ints. -/
namespace Y
open PySem PySem.Spec PyProof.Rows L2
/-- the best of the first j + 1 -/
theorem best_of {bt : Nat → Nat → Bool} {f : Nat → Int} (h : ∀ i j, bt i j = decide (f j < f i)) : ∀ j, PySem.argBest bt j ≤ j ∧ ∀ i, i ≤ j → f i ≤ f (PySem.argBest bt j)
  | 0 => ⟨Nat.le_refl _, fun i hi => by rw [show i = 0 by omega]; exact Int.le_refl _⟩
  | j + 1 => by
    obtain ⟨h1, h2⟩ := best_of h j
    unfold argBest
    rw [h]
    by_cases c : f (PySem.argBest bt j) < f (j + 1)
    · rw [decide_eq_true c, if_pos rfl]
      refine ⟨Nat.le_refl _, fun i hi => ?_⟩
      rcases Nat.lt_or_ge i (j + 1) with z | z
      · exact Int.le_trans (h2 i (by omega)) (Int.le_of_lt c)
      · rw [show i = j + 1 by omega]; exact Int.le_refl _
    · rw [decide_eq_false c, if_neg (by decide)]
      refine ⟨by omega, fun i hi => ?_⟩
      rcases Nat.lt_or_ge i (j + 1) with z | z
      · exact h2 i (by omega)
      · rw [show i = j + 1 by omega]; omega
section
variable {prog : Program} {w : World} {A : Around} {E : Value → Shared → Prop} {s : Shared} {Q : Value → Shared → Prop}
theorem max_view {v d : Addr} {vs : List (Key × Value)} {ep : Nat} {ns : List Int} {c : Value} (hh : A.handled = none) (hv : s.heap.IsValuesView v d) (dat : s.heap.DictAt (mixKind prog w) d vs ep)
    (val : ∀ (i : Nat) (k : Key) (u : Value), vs[i]? = some (k, u) → ∃ t, u = Value.int (ns.getD i 0) t) (hl : ns.length = vs.length)
    (q0 : ns = [] → ∀ h' tk, (∀ b o, s.heap.get? b = some o → h'.get? b = some o) → Q c { s with heap := h', toks := tk })
    (q1 : ∀ (i : Nat) (t : Tok) (h' : Heap) (tk : Nat), i < ns.length → (∀ j, j < ns.length → ns.getD j 0 ≤ ns.getD i 0) → (∀ b o, s.heap.get? b = some o → h'.get? b = some o) → Q (.int (ns.getD i 0) t) { s with heap := h', toks := tk }) :
    wpAny (model prog w) A (call (.builtin "max") [.ref v] [(Str.ofString "default", c)]) Q E s := by
  have hlt : d < s.heap.objs.size := by obtain ⟨o, es, ho, _⟩ := dat; exact Heap.lt_size ho
  refine PySem.call_max_walkD ?_
  refine wpAny_pyIter_values (d := d) (knd := mixKind prog w) hv dat ?_
  have mv : ∀ s', Moved [s.heap.objs.size] (fun a b => b = a) { s with heap := s.heap.push { cls := .type "dict_valueiterator", data := .fields #[.ref d, .int 0 0, .int vs.length 0, .int ep 0] } } s' → ∃ h' tk, s' = { s with heap := h', toks := tk } ∧ ∀ b o, s.heap.get? b = some o → h'.get? b = some o := fun s' m => by
    refine ⟨s'.heap, s'.toks, ?_, fun b o e => m.heap b o (fun hb => absurd (Heap.lt_size e) (by rw [List.mem_singleton.mp hb]; exact Nat.lt_irrefl _)) (Heap.get?_push_of_some _ e)⟩
    obtain ⟨h1, g1, d1, t1, o1⟩ := s'
    have e1 : g1 = s.gens := m.gens
    have e2 : d1 = s.drawn := m.drawn
    have e3 : o1 = s.os := m.os
    subst e1 e2 e3
    rfl
  refine ⟨_, _, _, _, _, _, _, s.heap, fun i j => decide (ns.getD j 0 < ns.getD i 0), rfl, (Walks.dictValues (A := A.in1) (knd := mixKind prog w) hh s.heap.objs.size d (Nat.ne_of_lt hlt) vs ep).toS, ?_, ?_, ?_, ?_, ?_, ?_⟩
  · exact ⟨⟨_, Heap.get?_push_size _ rfl, rfl, rfl⟩, dat.at' fun o e => Heap.get?_push_of_some _ e⟩
  · intro b hb
    show b < (s.heap.push _).objs.size
    rw [Heap.size_push]
    rcases List.mem_cons.mp hb with rfl | hb
    · exact Nat.lt_succ_self _
    · rw [List.mem_singleton.mp hb]
      exact Nat.lt_succ_of_lt hlt
  · intro b o e hb
    exact absurd (Heap.lt_size e) (by rw [List.mem_singleton.mp hb]; exact Nat.lt_irrefl _)
  · exact fun b o e => Heap.get?_push_of_some _ e
  · intro hn s' m
    obtain ⟨h', tk, rfl, hk⟩ := mv s' m
    exact q0 (List.eq_nil_of_length_eq_zero (by omega)) h' tk hk
  · intro hn
    refine ⟨fun i j vi vj s' Q' E' _ hi hj hq => ?_, fun u s' hP m => ?_⟩
    · obtain ⟨k1, e1⟩ := hi
      obtain ⟨k2, e2⟩ := hj
      obtain ⟨t1, rfl⟩ := val i k1 vi e1
      obtain ⟨t2, rfl⟩ := val j k2 vj e2
      exact gt_int hq
    · obtain ⟨h', tk, rfl, hk⟩ := mv s' m
      obtain ⟨k1, e1⟩ := hP
      obtain ⟨t1, rfl⟩ := val _ k1 u e1
      obtain ⟨b1, b2⟩ := best_of (bt := fun i j => decide (ns.getD j 0 < ns.getD i 0)) (f := fun i => ns.getD i 0) (fun _ _ => rfl) (vs.length - 1)
      exact q1 _ t1 h' tk (by omega) (fun j hj => b2 j (by omega)) hk
end
section
variable {X : Cx}
/-- the greatest of a dict's values, or c -/
def tMaxV (c : Int) (td : TE) : TE := fun σ H Q => td σ H fun x H1 => ∃ (d : Addr) (kvs : List (Key × V)) (ns : List Int), x = .ref d ∧ Rd H1 d (.dK kvs) ∧ kvs.map (·.2) = ns.map V.int ∧ (ns = [] → Q (.int c) H1) ∧ ∀ m ∈ ns, (∀ z ∈ ns, z ≤ m) → Q (.int m) H1
theorem pe_max_values {e : Expr} {td : TE} {p apos cpos kpos pos kp2 : Pos} {c : Int} {j : Nat} (hg : Gl X "max") (hc : X.calm = true) (hm : X.mg "max" = none) (he : PE X e td)
    (hbase : attributeBase e "values" X.env (eval e X.env) = eval e X.env := by rfl) (hline : (apos.endLine == cpos.line) = true := by rfl) (hu : X.A.units + 64 < cLine)
    (hst : backTo pos (starEach [.Call (.Attribute e "values" apos) [] [] cpos] X.env) = (false, eval (.Call (.Attribute e "values" apos) [] [] cpos) X.env) :: backTo pos (starEach [] X.env) := by rfl) :
    PE X (.Call (.Name "max" p) [.Call (.Attribute e "values" apos) [] [] cpos] [⟨some "default", .Constant (.int c) j kp2, kpos⟩] pos) (tMaxV c td) := by
  refine ⟨fun pins s σ H Q I h => ?_⟩
  refine wpAny_Call_Name_kw (ld_blt I hg hm (by decide +kernel : bootBuiltins "max" = some (.builtin "max")) ?_)
  refine PyProof.Rows.callWith_kw ?_ hst
  rw [hst]
  refine Calls.spliced_cons ?_
  refine wpAny_Call_method (T := "dict") (id := "dict.values") hbase rfl hline F.plainAttrs_dict F.slot_dict_values F.type_dict_values (thn (he.run pins s σ H _ I h) fun u s1 ⟨x, H1, I1, rx, d, kvs, ns, ex, hd, hv, q0, q1⟩ => ?_)
  subst ex
  obtain rfl : u = Value.ref d := rx
  obtain ⟨hz, hsys, vs, kv, dd⟩ := dk_rd I1.hok hd
  have hl : kvs.length = vs.length := Paired.length kv
  refine ⟨dd.typeIs, dd.mapOf.noDict, ?_⟩
  obtain ⟨o, es, ep, ho, hx, hdat, hk, hpr, hnd⟩ := id dd
  have dat : s1.heap.DictAt (mixKind X.prog X.w) d vs ep := ⟨o, es, ho, hx, hdat, hk, hpr, hnd⟩
  show wpAny _ _ (callWith cpos (.builtin "dict.values") [.ref d] [] []) _ X.xe s1
  refine method_meetsIn F.slot_dict_values F.entry_dict_values rfl (PySem.evalArgs_none ⟨rfl, dd.typeIs, F.args_dict_values_1 _, _, meets_dict_values (mixKind X.prog X.w) d hsys, ⟨vs, dd⟩, ?_⟩)
  refine Calls.spliced_nil ?_
  show wpAny _ _ (evalAll [do let v ← eval (.Constant (.int c) j kp2) X.env; standAt pos; pure v]) _ _ _
  refine wpAny_evalAll_cons (wpAny_bind (wpAny_Constant_int (wpAny_bind (wpAny_standAt (wpAny_pure (wpAny_evalAll_nil ?_))))))
  have val : ∀ (i : Nat) (k : Key) (v : Value), vs[i]? = some (k, v) → ∃ t, v = Value.int (ns.getD i 0) t ∧ i < ns.length := fun i k v e1 => by
    obtain ⟨a, e2, e3, e4⟩ := pr_get kv e1
    have e5 : (kvs.map (·.2))[i]? = some a.2 := by rw [List.getElem?_map, e2]; rfl
    rw [hv, List.getElem?_map] at e5
    obtain ⟨m, e6, e7⟩ := Option.map_eq_some_iff.mp e5
    rw [← e7] at e4
    obtain ⟨t, ht⟩ := e4
    exact ⟨t, by rw [List.getD_eq_getElem?_getD, e6]; exact ht, (List.getElem?_eq_some_iff.mp e6).1⟩
  have hlen : ns.length = vs.length := by
    have := congrArg List.length hv
    rw [List.length_map, List.length_map] at this
    omega
  refine max_view (ns := ns) (I1.ok.hd hc) (v := s1.heap.objs.size) ⟨_, Heap.get?_push_size _ rfl, rfl, rfl⟩ (dat.at' fun o e => Heap.get?_push_of_some _ e) (fun i k u e1 => (val i k u e1).imp fun _ h => h.1) hlen (fun z h' tk hk => ?_) (fun i t h' tk hi hb hk => ?_)
  · exact ⟨.int c, H1, I1.kept fun b o e => hk b o (Heap.get?_push_of_some _ e), ⟨_, rfl⟩, q0 z⟩
  · refine ⟨.int (ns.getD i 0), H1, I1.kept fun b o e => hk b o (Heap.get?_push_of_some _ e), ⟨_, rfl⟩, q1 _ ?_ fun z hz => ?_⟩
    · rw [List.getD_eq_getElem?_getD, List.getElem?_eq_getElem hi]
      exact List.getElem_mem hi
    · obtain ⟨j, hj, e⟩ := List.getElem_of_mem hz
      have := hb j hj
      rw [List.getD_eq_getElem?_getD, List.getElem?_eq_getElem hj] at this
      rw [← e]
      exact this
def MaxK (c : Int) (Q : VK) : VK := fun x H1 => ∃ (d : Addr) (kvs : List (Key × V)) (ns : List Int), x = .ref d ∧ Rd H1 d (.dK kvs) ∧ kvs.map (·.2) = ns.map V.int ∧ (ns = [] → Q (.int c) H1) ∧ ∀ m ∈ ns, (∀ z ∈ ns, z ≤ m) → Q (.int m) H1
theorem y_maxV {c : Int} {td : TE} {σ : L2.St} {H : Hp} {Q : VK} (h : td σ H (MaxK c Q)) : tMaxV c td σ H Q := h
theorem y_maxK {c : Int} {H : Hp} {Q : VK} {d : Addr} {t : Tab} (h : Rd H d (.dK (t.map enc))) (k : ∀ m, (m = c ∨ ∃ p ∈ t, p.2 = m) → Q (.int m) H) : MaxK c Q (.ref d) H := by
  refine ⟨d, _, t.map (·.2), rfl, h, by rw [List.map_map, List.map_map]; rfl, fun _ => k c (.inl rfl), fun m hm _ => k m (.inr ?_)⟩
  obtain ⟨p, hp, e⟩ := List.mem_map.mp hm
  exact ⟨p, hp, e⟩
end
end Y
namespace Y
open PySem PySem.Spec PyProof.Rows L2
section
variable {X : Cx} {K : PySem.W.Frag} {σ : L2.St} {e : En} {B H : Hp} {L : Led} {Q : VK} {ta : TA} {x y : V} {a b : Addr} {xs ys : List V} {R : It → Hp → Prop}
/-! int(..), isinstance(..), ranges with a step, lists of ints -/
def rIntU : List V → Hp → VK → Prop := fun xs H Q => (∃ i, xs = [.int i] ∧ Q (.int i) H) ∨ ∃ k, xs = [.bl k] ∧ Q (.int (if k then 1 else 0)) H
theorem call_intU : CallR X (.type "int") rIntU := call_int1
theorem y_intI {i : Int} (q : Q (.int i) H) : rIntU [.int i] H Q := .inl ⟨i, rfl, q⟩
theorem y_intB {c : Bool} (q : Q (.int (if c then 1 else 0)) H) : rIntU [.bl c] H Q := .inr ⟨c, rfl, q⟩
theorem call_isiU (hK : X.K = K) : CallR X (.builtin "isinstance") (rIsi K) := hK ▸ call_isi
theorem y_isiL (h : H a = some (.lst xs)) (q : Q (.bl true) H) : rIsi K [.ref a, .ty "list"] H Q := ⟨.ref a, .ty "list", _, _, true, rfl, .ty "list", .base (.lst h), by rfl, q⟩
def RngK3 (R : It → Hp → Prop) : List V → Hp → Prop := fun vs H1 => ∃ (i j c : Int) (n : Nat), vs = [.int i, .int j, .int c] ∧ RgC i j c n ∧ R (Itc i c n) H1
theorem y_irng3 (h : ta σ H (RngK3 R)) : iRng3 ta σ H R := h
theorem y_rngK3 {i j c : Int} {n : Nat} (h : RgC i j c n) (q : R (Itc i c n) H) : RngK3 R [.int i, .int j, .int c] H := ⟨i, j, c, n, rfl, h, q⟩
theorem RgC.two {i j : Int} (ha : -(2 ^ 30) ≤ i) (ha' : i < 2 ^ 30) (hb : -(2 ^ 30) ≤ j) (hb' : j < 2 ^ 30) : RgC i j (-2) ((i - j + 1) / 2).toNat := by
  have e : Builtin.Range.rangeSize i j (-2) = (((i - j + 1) / 2).toNat : Int) := by
    unfold Builtin.Range.rangeSize
    simp only [show ¬ ((-2 : Int) > 0) by decide, if_false, show (-(-2) : Int) = 2 from rfl]
    split <;> omega
  refine ⟨by decide, by decide, ?_, e⟩
  unfold Builtin.Range.small
  rw [e]
  simp only [Builtin.Range.rangeFitsLong, Bool.and_eq_true, Bool.or_eq_true, decide_eq_true_eq, beq_iff_eq, show ¬ ((-2 : Int) > 0) by decide, if_false]
  omega
theorem cut_init (xs : List V) : cutV xs none (some (-1)) = xs.dropLast := by
  unfold cutV
  rw [List.dropLast_eq_take]
  have e1 : HT.sIx xs.length 0 none = 0 := rfl
  have e2 : HT.sIx xs.length xs.length (some (-1)) = xs.length - 1 := by
    unfold HT.sIx
    simp
    omega
  rw [e1, e2]
  simp
theorem cut_last (xs : List V) : cutV xs (some (-1)) none = xs.drop (xs.length - 1) := by
  unfold cutV
  have e1 : HT.sIx xs.length 0 (some (-1)) = xs.length - 1 := by
    unfold HT.sIx
    simp
    omega
  have e2 : HT.sIx xs.length xs.length none = xs.length := rfl
  rw [e1, e2]
  apply List.take_of_length_le
  simp
/-- ints, as values -/
def IntAt (_ : Hp) (v : V) (n : Int) : Prop := v = .int n
theorem IntAt.up : ∀ (B B' : Hp) (v : V) (n : Int), Same B B' → IntAt B v n → IntAt B' v n := fun _ _ _ _ _ h => h
theorem pr_ints {B : Hp} : ∀ {l : List V} {m : List Int}, Paired (IntAt B) l m → l = m.map V.int
  | _, _, .nil => rfl
  | _, _, .cons h t => by rw [h, pr_ints t]; rfl
theorem fm_ifm {α β : Type} (p : α → Bool) (f : α → β) : ∀ l : List α, l.filterMap (fun r => if p r = true then some (f r) else none) = (l.filter p).map f
  | [] => rfl
  | a :: l => by
    rw [List.filterMap_cons, List.filter_cons, fm_ifm p f l]
    by_cases h : p a = true
    · rw [if_pos h, if_pos h]
      rfl
    · rw [if_neg h, if_neg h]
/-- the members of a list of ints -/
theorem inV_ints {k : Int} : ∀ {ns : List Int}, inV (.int k) (ns.map V.int) = decide (k ∈ ns) := by
  intro ns
  induction ns with
  | nil => rfl
  | cons n ns ih =>
    have e : inV (.int k) ((n :: ns).map V.int) = (eqV (.int n) (.int k) || inV (.int k) (ns.map V.int)) := rfl
    rw [e, ih]
    show ((n == k) || decide (k ∈ ns)) = _
    rw [Bool.eq_iff_iff]
    simp only [Bool.or_eq_true, beq_iff_eq, decide_eq_true_eq, List.mem_cons]
    constructor
    · rintro (h | h)
      · exact .inl h.symm
      · exact .inr h
    · rintro (h | h)
      · exact .inl h.symm
      · exact .inr h
theorem flat_ints : ∀ {ns : List Int}, (ns.map V.int).all flatV = true := by
  intro ns
  induction ns with
  | nil => rfl
  | cons n ns ih =>
    show (true && (ns.map V.int).all flatV) = true
    rw [ih]
    rfl
theorem y_neIN {i : Int} (q : Q (.bl true) H) : rNeU K (.int i) .non H Q := .inl ⟨rfl, q⟩
theorem y_gtup {n : Nat} {t : TGs} {N : L2.St → Hp → Prop} (h : SqT K H a xs) (hl : xs.length = n) (q : t xs σ H N) : gTup K n t (.ref a) σ H N := ⟨a, xs, rfl, h, hl, q⟩
theorem y_inI {ns : List Int} {k : Int} (h : SqL K H a (ns.map V.int)) (q : Q (.bl (decide (k ∈ ns))) H) : rInU K (.int k) (.ref a) H Q := y_inL h rfl flat_ints (by rw [inV_ints]; exact q)
theorem y_gcons {t : TG} {u : TGs} {N : L2.St → Hp → Prop} {v : V} {r : List V} (h : t v σ H fun σ' H' => u r σ' H' N) : gCons t u (v :: r) σ H N := ⟨v, r, rfl, h⟩
theorem y_gnil {N : L2.St → Hp → Prop} (h : N σ H) : gNil [] σ H N := ⟨rfl, h⟩
theorem eqv_ints : ∀ ns : List Int, PyData.eqvAll (ns.map PyData.int) (ns.map PyData.int) = true
  | [] => by simp [PyData.eqvAll]
  | n :: ns => by simp [PyData.eqvAll, PyData.eqv, eqv_ints ns]
theorem dp_ints : ∀ ns : List Int, DpAll K H (ns.map V.int) (ns.map PyData.int)
  | [] => .nil
  | n :: ns => .cons (.int n) (dp_ints ns)
/-- two lists of the same ints -/
theorem y_neInts {ns : List Int} (h1 : SqL K H a (ns.map V.int)) (h2 : SqL K H b (ns.map V.int)) (q : Q (.bl false) H) : rNeU K (.ref a) (.ref b) H Q :=
  y_neD (.lst h1 (dp_ints ns)) (.lst h2 (dp_ints ns)) (PySem.W.shaped_ints ns) (PySem.W.shaped_ints ns) (by rw [PyData.eqv, eqv_ints]; exact q)
theorem y_eqInts {ns : List Int} (h1 : SqL K H a (ns.map V.int)) (h2 : SqL K H b (ns.map V.int)) (q : Q (.bl true) H) : rEqU K (.ref a) (.ref b) H Q :=
  y_eqD (.lst h1 (dp_ints ns)) (.lst h2 (dp_ints ns)) (PySem.W.shaped_ints ns) (PySem.W.shaped_ints ns) (by rw [PyData.eqv, eqv_ints]; exact q)
theorem al_ints {n : Nat} : ∀ {ns : List Int}, Paired (Al K H (n + 1)) (ns.map V.int) (ns.map V.int)
  | [] => .nil
  | _ :: _ => .cons (.inl ⟨rfl, rfl⟩) al_ints
theorem y_ext0 {l : Addr} (S : Sy e B H ((l, .lst xs) :: L)) (hb : H b = some (.lst ys)) (hl : xs.length + ys.length ≤ sizeLine) (k : ∀ H', Sy e B H' ((l, .lst (xs ++ ys)) :: L) → Q .non H') : rExtend (.ref l) [.ref b] H Q :=
  ⟨l, b, xs, ys, rfl, rfl, S.g0, hb, hl, k _ (S.w0 _)⟩
theorem y_ext1 {l : Addr} {q : Addr × HO} (S : Sy e B H (q :: (l, .lst xs) :: L)) (hb : H b = some (.lst ys)) (hl : xs.length + ys.length ≤ sizeLine) (k : ∀ H', Sy e B H' (q :: (l, .lst (xs ++ ys)) :: L) → Q .non H') : rExtend (.ref l) [.ref b] H Q :=
  ⟨l, b, xs, ys, rfl, rfl, S.g1, hb, hl, k _ (S.w1 _)⟩
end
end Y
/-! Things of the ledger lent to a callee, to be read. -/
namespace Y
open PySem PySem.Spec PyProof.Rows L2
/-- the base with the ledger on it -/
def over (B : Hp) : Led → Hp
  | [] => B
  | p :: L => upd (over B L) p.1 p.2
/-- without the ledger's places -/
def less (B : Hp) (L : Led) : Hp := fun a => if a ∈ L.map (·.1) then none else B a
section
variable {e : En} {B B' H H' : Hp} {L N : Led} {a : Addr} {o : HO} {K : PySem.W.Frag} {Q : VK} {E : XK} {v : V} {vs xs : List V} {φ : Ph}
theorem over_out (B : Hp) : ∀ {L : Led} {a : Addr}, a ∉ L.map (·.1) → over B L a = B a
  | [], _, _ => rfl
  | p :: L, a, h => by
    rw [List.map_cons, List.mem_cons, not_or] at h
    show upd (over B L) p.1 p.2 a = _
    unfold upd
    rw [if_neg h.1]
    exact over_out B h.2
theorem over_in (B : Hp) : ∀ {L : Led} {p : Addr × HO}, (L.map (·.1)).Nodup → p ∈ L → over B L p.1 = some p.2
  | q :: L, p, nd, h => by
    rw [List.map_cons, List.nodup_cons] at nd
    show upd (over B L) q.1 q.2 p.1 = _
    rcases List.mem_cons.mp h with h1 | h1
    · subst h1
      exact upd_same
    · have hne : p.1 ≠ q.1 := fun z => nd.1 (by rw [← z]; exact List.mem_map.mpr ⟨p, h1, rfl⟩)
      unfold upd
      rw [if_neg hne]
      exact over_in B nd.2 h1
theorem less_out {B : Hp} {L : Led} {a : Addr} (h : a ∉ L.map (·.1)) : less B L a = B a := if_neg h
theorem Sy.ov (S : Sy e B H L) (h : (a, o) ∈ L) : over B L a = some o := over_in B S.nd h
theorem Sy.bout (S : Sy e B H L) (h : B a = some o) : a ∉ L.map (·.1) := fun z => by
  obtain ⟨p, hp, e1⟩ := List.mem_map.mp z
  have := (S.led p hp).2.1
  rw [show p.1 = a from e1, h] at this
  cases this
theorem Sy.toOver (S : Sy e B H L) : Same B (over B L) := fun a o h => by rw [over_out B (S.bout h)]; exact h
theorem Sy.lendHand (S : Sy e B H L) : Hand (over B L) H [] := by
  refine ⟨fun a o h => ?_, fun p hp => (by cases hp), by simp, fun p hp => (by cases hp)⟩
  by_cases c : a ∈ L.map (·.1)
  · obtain ⟨p, hp, e1⟩ := List.mem_map.mp c
    have h1 := over_in B S.nd hp
    rw [show p.1 = a from e1, h] at h1
    cases h1
    have := (S.led p hp).1
    rw [show p.1 = a from e1] at this
    exact .inl this
  · rw [over_out B c] at h
    exact S.bh a o h
theorem Sy.lendBack (S : Sy e B H L) (T : Sy ⟨[], [], over B L, H⟩ B' H' N) : Same B (less B' L) ∧ Sy e (less B' L) H' (N ++ L) ∧ ∀ p ∈ N, e.H p.1 = Option.none := by
  have hN : ∀ p ∈ N, H p.1 = Option.none := fun p hp => by
    obtain ⟨_, _, r3, _⟩ := T.led p hp
    rcases r3 with z | z
    · cases z
    · exact z
  have hN2 : ∀ p ∈ N, e.H p.1 = Option.none := fun p hp => by
    cases q : e.H p.1 with
    | none => rfl
    | some x => exact absurd (hN p hp) (S.there p.1 (by rw [q]; simp))
  have kp : ∀ a o, H a = some o → H' a = some o := fun a o h => T.keep a o (by simp) (by simp) h
  have out : ∀ {a o}, less B' L a = some o → a ∉ L.map (·.1) ∧ B' a = some o := fun {a o} h => by
    unfold less at h
    by_cases c : a ∈ L.map (·.1)
    · rw [if_pos c] at h; cases h
    · rw [if_neg c] at h; exact ⟨c, h⟩
  have b0 : Same B (less B' L) := fun a o h => by
    unfold less
    rw [if_neg (S.bout h)]
    exact T.b0 a o (S.toOver a o h)
  refine ⟨b0, ⟨S.b0.trans b0, fun a o h => T.bh a o (out h).2, fun p hp => ?_, ?_, fun a o h1 h2 q => kp a o (S.keep a o h1 h2 q), fun a r1 r2 => ?_, fun a r => T.there a (S.there a r), fun p hp => kp _ _ (S.zin p hp), fun a x q hk => ?_, fun p hp => (List.mem_append.mp hp).elim (T.nt p) (S.nt p)⟩, hN2⟩
  · rcases List.mem_append.mp hp with hp | hp
    · obtain ⟨r1, r2, r3, r4⟩ := T.led p hp
      refine ⟨r1, ?_, .inr (hN2 p hp), fun z => ?_⟩
      · unfold less
        split
        · rfl
        · exact r2
      · obtain ⟨q, hq, e1⟩ := List.mem_map.mp z
        have := S.zin q hq
        rw [show q.1 = p.1 from e1, hN p hp] at this
        cases this
    · obtain ⟨s1, s2, s3, s4⟩ := S.led p hp
      refine ⟨kp _ _ s1, ?_, s3, s4⟩
      unfold less
      rw [if_pos (List.mem_map.mpr ⟨p, hp, rfl⟩)]
  · rw [List.map_append]
    refine List.nodup_append.mpr ⟨T.nd, S.nd, fun a ha b hb hab => ?_⟩
    subst hab
    obtain ⟨p, hp, ep⟩ := List.mem_map.mp ha
    obtain ⟨r, hr, er⟩ := List.mem_map.mp hb
    have q1 := hN p hp
    have q2 := (S.led r hr).1
    rw [show p.1 = a from ep] at q1
    rw [show r.1 = a from er, q1] at q2
    cases q2
  · unfold less
    split
    · exact .inl rfl
    · next c =>
        rcases S.fresh a r1 r2 with z | ⟨xs, z⟩
        · exact T.fresh a (S.there a r1) (by show over B L a = _; rw [over_out B c]; exact z)
        · exact .inr ⟨xs, T.b0 a _ (S.toOver a _ z)⟩
  · obtain ⟨c, q⟩ := out q
    rcases T.lk a x q hk with z | z | ⟨ob, u, z⟩
    · exact .inl z
    · exact absurd z (by simp)
    · have z : H a = some (.frz ob u) := z
      cases r : B a with
      | none =>
        rcases T.fresh a (by show H a ≠ _; rw [z]; simp) (by show over B L a = _; rw [over_out B c]; exact r) with this | ⟨xs, this⟩
        · rw [q] at this; cases this
        · rw [q] at this; cases this; exact hk.elim
      | some y =>
        have e1 : B' a = some y := T.b0 a y (S.toOver a y r)
        rw [q] at e1; cases e1
        rcases S.lk a x r hk with z2 | z2 | z2
        · rw [z] at z2; cases z2; exact hk.elim
        · exact .inr (.inl z2)
        · exact .inr (.inr z2)
/-- a call that may read all of the ledger -/
theorem y_lend (S : Sy e B H L) (h : φ (over B L) vs [] fun B' v N => ∀ H', Same (over B L) B' → Same B (less B' L) → Sy e (less B' L) H' (N ++ L) → (∀ p ∈ N, e.H p.1 = none) → Q v H')
    (mono : ∀ (B : Hp) (k k' : Hp → V → Led → Prop), (∀ B' v N, k B' v N → k' B' v N) → φ B vs [] k → φ B vs [] k') : spY φ vs H Q E :=
  ⟨over B L, [], S.lendHand, mono _ _ _ (fun B' v N hk H' T => by
    obtain ⟨h1, h2, h3⟩ := S.lendBack T
    exact hk H' T.b0 h1 h2 h3) h⟩
/-- lists and dicts alone -/
def Flat (L : Led) : Prop := ∀ p ∈ L, (∃ xs, p.2 = .lst xs) ∨ ∃ kvs, p.2 = .dK kvs
theorem less_t (S : Sy e B H L) (hf : Flat L) (b : Same (over B L) B') (h : SqT K B' a xs) : SqT K (less B' L) a xs := by
  rcases h with h | h
  · have c : a ∉ L.map (·.1) := fun z => by
      obtain ⟨p, hp, e1⟩ := List.mem_map.mp z
      have h1 := b _ _ (over_in B S.nd hp)
      rw [show p.1 = a from e1] at h1
      rcases hf p hp with ⟨ys, e2⟩ | ⟨ys, e2⟩ <;> rw [e2] at h1 <;> rcases h with h | ⟨ob, h⟩ <;> rw [h1] at h <;> cases h
    refine .inl ?_
    rcases h with h | ⟨ob, h⟩
    · exact .inl (by rw [less_out c]; exact h)
    · exact .inr ⟨ob, by rw [less_out c]; exact h⟩
  · exact .inr h
end
end Y
/-! The ledger by index; == and in of plain data; data by their types. -/
namespace Y
open PySem PySem.Spec PyProof.Rows L2
section
variable {e : En} {B B' H H' : Hp} {L L' R : Led} {a b p : Addr} {o o' : HO} {K : PySem.W.Frag} {n : Nat}
theorem led_split {n : Nat} {q : Addr × HO} (h : L[n]? = some q) : L = L.take n ++ q :: L.drop (n + 1) := by
  obtain ⟨h1, h2⟩ := List.getElem?_eq_some_iff.mp h
  have := List.take_append_drop n L
  rw [List.drop_eq_getElem_cons h1, h2] at this
  exact this.symm
theorem led_set {n : Nat} {q : Addr × HO} (h : L[n]? = some q) (q' : Addr × HO) : L.set n q' = L.take n ++ q' :: L.drop (n + 1) := by
  obtain ⟨h1, h2⟩ := List.getElem?_eq_some_iff.mp h
  rw [List.set_eq_take_append_cons_drop, if_pos h1]
theorem led_erase {n : Nat} {q : Addr × HO} (h : L[n]? = some q) : L.Perm (q :: L.eraseIdx n) := by
  have e1 : L.eraseIdx n = L.take n ++ L.drop (n + 1) := List.eraseIdx_eq_take_drop_succ L n
  rw [e1]
  conv => lhs; rw [led_split h]
  exact List.perm_middle
theorem led_unerase {n : Nat} {q : Addr × HO} (h : L[n]? = some q) (q' : Addr × HO) : (q' :: L.eraseIdx n).Perm (L.set n q') := by
  have e1 : L.eraseIdx n = L.take n ++ L.drop (n + 1) := List.eraseIdx_eq_take_drop_succ L n
  rw [e1, led_set h]
  exact List.perm_middle.symm
theorem Sy.at (S : Sy e B H L) (n : Nat) (h : L[n]? = some (a, o)) : H a = some o := (S.led (a, o) (List.mem_of_getElem? h)).1
theorem Sy.front (S : Sy e B H L) (n : Nat) (h : L[n]? = some (a, o)) : Sy e B H ((a, o) :: L.eraseIdx n) := S.perm (led_erase h)
theorem Sy.wr (S : Sy e B H L) (n : Nat) (h : L[n]? = some (a, o)) (o' : HO) (no : NT o' := by intro _ z; cases z) : Sy e B (upd H a o') (L.set n (a, o')) := ((S.front n h).w0 o' no).perm (led_unerase h _)
theorem Sy.outN (S : Sy e B H L) (n : Nat) : Sy e B H (L.eraseIdx n) := S.sub (List.eraseIdx_sublist _ _)
theorem Sy.freezeN (S : Sy e B H L) (n : Nat) (h : L[n]? = some (a, o)) (hn : e.H a = Option.none) : Same B (upd B a o) ∧ Sy e (upd B a o) H (L.eraseIdx n) := (S.front n h).freeze hn
theorem Sy.frz (S : Sy e B H L) (n : Nat) (h : L[n]? = some (a, o)) (hn : e.H a = Option.none) : ∃ B', Same B B' ∧ B' a = some o ∧ Sy e B' H (L.eraseIdx n) := ⟨_, (S.freezeN n h hn).1, upd_same, (S.freezeN n h hn).2⟩
/-- behind a call that was handed L, whatever it may change now -/
theorem Sy.backG (S : Sy e B H (L ++ R)) (T : Sy ⟨L.map (·.1), [], B, H⟩ B' H' L') : Same B B' ∧ Sy e B' H' (L' ++ R) ∧ ∀ p ∈ L', p.1 ∈ L.map (·.1) ∨ (H p.1 = Option.none ∧ e.H p.1 = Option.none) := by
  have nd := S.nd
  rw [List.map_append] at nd
  have nR : ∀ p ∈ R, p.1 ∉ L.map (·.1) := fun p hp hm => (List.nodup_append.mp nd).2.2 _ hm _ (List.mem_map.mpr ⟨p, hp, rfl⟩) rfl
  have hnew : ∀ p ∈ L', p.1 ∈ L.map (·.1) ∨ (H p.1 = Option.none ∧ e.H p.1 = Option.none) := fun p hp => by
    obtain ⟨_, _, r3, _⟩ := T.led p hp
    rcases r3 with z | z
    · exact .inl z
    · refine .inr ⟨z, ?_⟩
      cases q : e.H p.1 with
      | none => rfl
      | some x => exact absurd z (S.there p.1 (by rw [q]; simp))
  have frR : ∀ p ∈ R, B' p.1 = Option.none := fun p hp => by
    obtain ⟨s1, s2, s3, s4⟩ := S.led p (List.mem_append_right _ hp)
    rcases T.fresh p.1 (by show H p.1 ≠ _; rw [s1]; simp) s2 with z | ⟨xs, z⟩
    · exact z
    · have h1 := T.keep p.1 p.2 (nR p hp) (by simp) s1
      have h2 := T.bh.tup z
      rw [h1] at h2
      exact absurd (Option.some.inj h2) (S.nt p (List.mem_append_right _ hp) xs)
  refine ⟨T.b0, ⟨S.b0.trans T.b0, T.bh, fun p hp => ?_, ?_, fun a x h1 h2 q => ?_, fun a r1 r2 => ?_, fun a r => T.there a (S.there a r), fun p hp => ?_, fun a x q hk => ?_, fun p hp => (List.mem_append.mp hp).elim (T.nt p) (fun z => S.nt p (List.mem_append_right _ z))⟩, hnew⟩
  · rcases List.mem_append.mp hp with hp | hp
    · obtain ⟨r1, r2, r3, r4⟩ := T.led p hp
      refine ⟨r1, r2, ?_, ?_⟩
      · rcases hnew p hp with hm | ⟨_, hm⟩
        · obtain ⟨q, hq, eq⟩ := List.mem_map.mp hm
          rw [← eq]; exact (S.led q (List.mem_append_left _ hq)).2.2.1
        · exact .inr hm
      · rcases hnew p hp with hm | ⟨hm, _⟩
        · obtain ⟨q, hq, eq⟩ := List.mem_map.mp hm
          rw [← eq]; exact (S.led q (List.mem_append_left _ hq)).2.2.2
        · intro z
          obtain ⟨q, hq, e1⟩ := List.mem_map.mp z
          have := S.zin q hq
          rw [show q.1 = p.1 from e1, hm] at this; cases this
    · obtain ⟨s1, s2, s3, s4⟩ := S.led p (List.mem_append_right _ hp)
      exact ⟨T.keep p.1 p.2 (nR p hp) (by simp) s1, frR p hp, s3, s4⟩
  · rw [List.map_append]
    refine List.nodup_append.mpr ⟨T.nd, (List.nodup_append.mp nd).2.1, fun x hx y hy hxy => ?_⟩
    subst hxy
    obtain ⟨p, hp, ep⟩ := List.mem_map.mp hx
    obtain ⟨r, hr, er⟩ := List.mem_map.mp hy
    rcases hnew p hp with hm | ⟨hm, _⟩
    · rw [show p.1 = x from ep] at hm
      exact nR r hr (by rw [show r.1 = x from er]; exact hm)
    · have q2 := (S.led r (List.mem_append_right _ hr)).1
      rw [show r.1 = x from er, ← show p.1 = x from ep, hm] at q2
      cases q2
  · have r := S.keep a x h1 h2 q
    refine T.keep a x (fun hm => ?_) (by simp) r
    obtain ⟨p, hp, eq⟩ := List.mem_map.mp hm
    obtain ⟨s1, s2, s3, s4⟩ := S.led p (List.mem_append_left _ hp)
    rw [show p.1 = a from eq] at s3
    rcases s3 with z | z
    · exact h1 z
    · rw [q] at z; cases z
  · rcases S.fresh a r1 r2 with z | ⟨xs, z⟩
    · exact T.fresh a (S.there a r1) z
    · exact .inr ⟨xs, T.b0 a _ z⟩
  · refine T.keep p.1 _ (fun hm => ?_) (by simp) (S.zin p hp)
    obtain ⟨q, hq, eq⟩ := List.mem_map.mp hm
    exact (S.led q (List.mem_append_left _ hq)).2.2.2 (List.mem_map.mpr ⟨p, hp, eq.symm⟩)
  · rcases T.lk a x q hk with z | z | ⟨ob, u, z⟩
    · exact .inl z
    · exact absurd z (by simp)
    · have z : H a = some (.frz ob u) := z
      cases r : B a with
      | none =>
        rcases T.fresh a (by show H a ≠ _; rw [z]; simp) r with this | ⟨xs, this⟩
        · rw [q] at this; cases this
        · rw [q] at this; cases this; exact hk.elim
      | some y =>
        have e1 : B' a = some y := T.b0 a y r
        rw [q] at e1; cases e1
        rcases S.lk a x r hk with z2 | z2 | z2
        · rw [z] at z2; cases z2; exact hk.elim
        · exact .inr (.inl z2)
        · exact .inr (.inr z2)
/-- one of the ledger is handed over -/
theorem Sy.handN (S : Sy e B H L) (n : Nat) (h : L[n]? = some (a, o)) : Hand B H [(a, o)] := (S.front n h).hand1
theorem Sy.backN1 (S : Sy e B H L) (n : Nat) (h : L[n]? = some (a, o)) (T : Sy ⟨[a], [], B, H⟩ B' H' [(a, o')]) : Sy e B' H' (L.set n (a, o')) := ((S.front n h).back1 T).perm (led_unerase h _)
end
/-! ### == and in of plain data -/
section
variable {X : Cx} {K : PySem.W.Frag}
/-- no dict, not deep -/
structure Pl (d : PyData) : Prop where
  pl : d.plain = true
  dp : d.depth ≤ 50
def rEqP (K : PySem.W.Frag) : R2 := fun x y H Q => ∃ d e, Dp K H x d ∧ Dp K H y e ∧ Pl d ∧ Pl e ∧ Q (.bl (PyData.eqv d e)) H
def rNeP (K : PySem.W.Frag) : R2 := fun x y H Q => ∃ d e, Dp K H x d ∧ Dp K H y e ∧ Pl d ∧ Pl e ∧ Q (.bl (!PyData.eqv d e)) H
theorem op_eqP (hu : X.A.units + 64 < cLine) : OpR X (compareOp .Eq) (rEqP X.K) := by
  intro pins s σ H x y v u Q I rx ry h
  obtain ⟨d, e, hd, he, sd, se, q⟩ := h
  obtain ⟨as, r1⟩ := Dp.reads I d x v hd rx
  obtain ⟨bs, r2⟩ := Dp.reads I e y u he ry
  exact SeqAt.eq_plain r1 r2 sd.pl se.pl (by have := sd.dp; have : min d.depth e.depth ≤ d.depth := Nat.min_le_left _ _; omega) ⟨.bl _, H, I, rfl, q⟩
theorem op_neP (hu : X.A.units + 64 < cLine) : OpR X (compareOp .NotEq) (rNeP X.K) := by
  intro pins s σ H x y v u Q I rx ry h
  obtain ⟨d, e, hd, he, sd, se, q⟩ := h
  obtain ⟨as, r1⟩ := Dp.reads I d x v hd rx
  obtain ⟨bs, r2⟩ := Dp.reads I e y u he ry
  exact SeqAt.ne_plain r1 r2 sd.pl se.pl (by have := sd.dp; have : min d.depth e.depth ≤ d.depth := Nat.min_le_left _ _; omega) ⟨.bl _, H, I, rfl, q⟩
def rInP (K : PySem.W.Frag) (neg : Bool) : R2 := fun x y H Q => ∃ d ds, Dp K H x d ∧ (Dp K H y (.list ds) ∨ Dp K H y (.tuple ds)) ∧ d.plain = true ∧ PyData.plainAll ds = true ∧ d.depth ≤ 50 ∧ Q (.bl (neg ^^ ds.any fun z => PyData.eqv z d)) H
theorem op_inP (hu : X.A.units + 64 < cLine) : OpR X (compareOp .In) (rInP X.K false) := by
  intro pins s σ H x y v u Q I rx ry h
  obtain ⟨d, ds, hd, he, sd, se, dd, q⟩ := h
  obtain ⟨as, r1⟩ := Dp.reads I d x v hd rx
  have hm : min (PyData.depthAll ds) d.depth ≤ d.depth := Nat.min_le_right _ _
  rw [Bool.false_xor] at q
  rcases he with he | he
  · obtain ⟨bs, r2⟩ := Dp.reads I _ y u he ry
    exact SeqAt.in_list_data r2 r1 se sd (by omega) ⟨.bl _, H, I, rfl, q⟩
  · obtain ⟨bs, r2⟩ := Dp.reads I _ y u he ry
    exact SeqAt.in_tuple_data r2 r1 se sd (by omega) ⟨.bl _, H, I, rfl, q⟩
theorem op_notInP (hu : X.A.units + 64 < cLine) : OpR X (compareOp .NotIn) (rInP X.K true) := by
  intro pins s σ H x y v u Q I rx ry h
  obtain ⟨d, ds, hd, he, sd, se, dd, q⟩ := h
  obtain ⟨as, r1⟩ := Dp.reads I d x v hd rx
  have hm : min (PyData.depthAll ds) d.depth ≤ d.depth := Nat.min_le_right _ _
  rw [Bool.true_xor] at q
  rcases he with he | he
  · obtain ⟨bs, r2⟩ := Dp.reads I _ y u he ry
    exact SeqAt.notIn_list_data r2 r1 se sd (by omega) ⟨.bl _, H, I, rfl, q⟩
  · obtain ⟨bs, r2⟩ := Dp.reads I _ y u he ry
    exact SeqAt.notIn_tuple_data r2 r1 se sd (by omega) ⟨.bl _, H, I, rfl, q⟩
def rEqZ (K : PySem.W.Frag) : R2 := fun x y H Q => rEqU K x y H Q ∨ rEqP K x y H Q
theorem op_eqZ (hK : X.K = K) (hu : X.A.units + 64 < cLine) : OpR X (compareOp .Eq) (rEqZ K) := hK ▸ OpR.or (op_eqU rfl hu) (op_eqP hu)
def rNeZ (K : PySem.W.Frag) : R2 := fun x y H Q => rNeU K x y H Q ∨ rNeP K x y H Q
theorem op_neZ (hK : X.K = K) (hu : X.A.units + 64 < cLine) : OpR X (compareOp .NotEq) (rNeZ K) := hK ▸ OpR.or (op_neU rfl hu) (op_neP hu)
def rInZ (K : PySem.W.Frag) : R2 := fun x y H Q => rInU K x y H Q ∨ rInP K false x y H Q
theorem op_inZ (hK : X.K = K) (hu : X.A.units + 64 < cLine) : OpR X (compareOp .In) (rInZ K) := hK ▸ OpR.or (op_inU rfl (by omega)) (op_inP hu)
def rNotInZ (K : PySem.W.Frag) : R2 := fun x y H Q => rNotInU K x y H Q ∨ rInP K true x y H Q
theorem op_notInZ (hK : X.K = K) (hu : X.A.units + 64 < cLine) : OpR X (compareOp .NotIn) (rNotInZ K) := hK ▸ OpR.or (op_notInU rfl (by omega)) (op_notInP hu)
end
/-! ### data by their types -/
theorem depthAll_le {n : Nat} : ∀ {ds : List PyData}, (∀ d ∈ ds, d.depth ≤ n) → PyData.depthAll ds ≤ n
  | [], _ => by simp [PyData.depthAll]
  | d :: ds, h => by
    have h1 := h d List.mem_cons_self
    have h2 := depthAll_le (ds := ds) fun x hx => h x (List.mem_cons_of_mem _ hx)
    rw [PyData.depthAll]
    omega
theorem plainAll_of : ∀ {ds : List PyData}, (∀ d ∈ ds, d.plain = true) → PyData.plainAll ds = true
  | [], _ => rfl
  | d :: ds, h => by
    rw [PyData.plainAll, h d List.mem_cons_self, plainAll_of fun x hx => h x (List.mem_cons_of_mem _ hx)]
    rfl
structure Cod (α : Type) where
  enc : α → PyData
  dep : Nat
  pl : ∀ x, (enc x).plain = true
  dp : ∀ x, (enc x).depth ≤ dep
  eq : ∀ x y, PyData.eqv (enc x) (enc y) = true ↔ x = y
namespace Cod
def int : Cod Int := ⟨.int, 1, fun _ => rfl, fun _ => by simp [PyData.depth], fun x y => by simp [PyData.eqv]⟩
def str : Cod Str := ⟨.str, 1, fun _ => rfl, fun _ => by simp [PyData.depth], fun x y => by simp [PyData.eqv]⟩
def bool : Cod Bool := ⟨.bool, 1, fun _ => rfl, fun _ => by simp [PyData.depth], fun x y => by simp [PyData.eqv]⟩
def optE {α : Type} (c : Cod α) : Option α → PyData
  | none => .none
  | some x => c.enc x
theorem eqvAll_map {α : Type} (c : Cod α) : ∀ xs ys : List α, PyData.eqvAll (xs.map c.enc) (ys.map c.enc) = true ↔ xs = ys
  | [], [] => by simp [PyData.eqvAll]
  | [], _ :: _ => by simp [PyData.eqvAll]
  | _ :: _, [] => by simp [PyData.eqvAll]
  | x :: xs, y :: ys => by
    simp only [List.map_cons, PyData.eqvAll, Bool.and_eq_true, c.eq, eqvAll_map c xs ys, List.cons.injEq]
def list {α : Type} (c : Cod α) : Cod (List α) := ⟨fun xs => .list (xs.map c.enc), c.dep + 1, fun xs => by
    rw [PyData.plain]
    exact plainAll_of fun d hd => by obtain ⟨x, _, rfl⟩ := List.mem_map.mp hd; exact c.pl x, fun xs => by
    rw [PyData.depth]
    have := depthAll_le (n := c.dep) (ds := xs.map c.enc) fun d hd => by obtain ⟨x, _, rfl⟩ := List.mem_map.mp hd; exact c.dp x
    omega, fun xs ys => by rw [PyData.eqv]; exact eqvAll_map c xs ys⟩
def tupL {α : Type} (c : Cod α) : Cod (List α) := ⟨fun xs => .tuple (xs.map c.enc), c.dep + 1, fun xs => by
    rw [PyData.plain]
    exact plainAll_of fun d hd => by obtain ⟨x, _, rfl⟩ := List.mem_map.mp hd; exact c.pl x, fun xs => by
    rw [PyData.depth]
    have := depthAll_le (n := c.dep) (ds := xs.map c.enc) fun d hd => by obtain ⟨x, _, rfl⟩ := List.mem_map.mp hd; exact c.dp x
    omega, fun xs ys => by rw [PyData.eqv]; exact eqvAll_map c xs ys⟩
def tup2 {α β : Type} (c : Cod α) (d : Cod β) : Cod (α × β) := ⟨fun x => .tuple [c.enc x.1, d.enc x.2], max c.dep d.dep + 1, fun x => by simp [PyData.plain, PyData.plainAll, c.pl, d.pl], fun x => by
    have h1 := c.dp x.1
    have h2 := d.dp x.2
    simp only [PyData.depth, PyData.depthAll]
    omega, fun x y => by
    simp only [PyData.eqv, PyData.eqvAll, Bool.and_true, Bool.and_eq_true, c.eq, d.eq]
    exact ⟨fun h => Prod.ext h.1 h.2, fun h => by rw [h]; exact ⟨rfl, rfl⟩⟩⟩
def tup3 {α β γ : Type} (c : Cod α) (d : Cod β) (f : Cod γ) : Cod (α × β × γ) := ⟨fun x => .tuple [c.enc x.1, d.enc x.2.1, f.enc x.2.2], max c.dep (max d.dep f.dep) + 1, fun x => by simp [PyData.plain, PyData.plainAll, c.pl, d.pl, f.pl], fun x => by
    have h1 := c.dp x.1
    have h2 := d.dp x.2.1
    have h3 := f.dp x.2.2
    simp only [PyData.depth, PyData.depthAll]
    omega, fun x y => by
    obtain ⟨x1, x2, x3⟩ := x
    obtain ⟨y1, y2, y3⟩ := y
    simp only [PyData.eqv, PyData.eqvAll, Bool.and_true, Bool.and_eq_true, c.eq, d.eq, f.eq, Prod.mk.injEq]⟩
def optI : Cod (Option Int) := ⟨optE int, 1, fun x => by cases x <;> rfl, fun x => by cases x <;> simp [optE, int, PyData.depth], fun x y => by
    cases x <;> cases y <;> simp [optE, int, PyData.eqv]⟩
end Cod
/-- v stands for x -/
def At {α : Type} (c : Cod α) (K : PySem.W.Frag) (B : Hp) (v : V) (x : α) : Prop := Dp K B v (c.enc x)
section
variable {α β : Type} {c : Cod α} {K : PySem.W.Frag} {e : En} {B B' H H' : Hp} {L : Led} {a p : Addr} {v u x y : V} {xs vs : List V} {Q : VK}
theorem At.up {z : α} (s : Same B B') (h : At c K B v z) : At c K B' v z := up_d s h
theorem at_up (B B' : Hp) (v : V) (z : α) (s : Same B B') (h : At c K B v z) : At c K B' v z := up_d s h
theorem At.int {i : Int} : At .int K B (.int i) i := Dp.int i
theorem At.str {i : Str} : At .str K B (.str i) i := Dp.str i
theorem At.bool {i : Bool} : At .bool K B (.bl i) i := Dp.bl i
theorem at_int {i : Int} (h : At .int K B v i) : v = .int i := by cases h; rfl
theorem at_str {i : Str} (h : At .str K B v i) : v = .str i := by cases h; rfl
theorem at_bool {i : Bool} (h : At .bool K B v i) : v = .bl i := by cases h; rfl
theorem dpAll_of : ∀ {vs : List V} {zs : List α}, Paired (At c K B) vs zs → DpAll K B vs (zs.map c.enc)
  | _, _, .nil => .nil
  | _, _, .cons h t => .cons h (dpAll_of t)
theorem of_dpAll : ∀ {vs : List V} {zs : List α}, DpAll K B vs (zs.map c.enc) → Paired (At c K B) vs zs
  | _, [], h => by cases h; exact .nil
  | _, _ :: _, h => by cases h with | cons h t => exact .cons h (of_dpAll t)
theorem at_list {zs : List α} (h : At (.list c) K B v zs) : ∃ a vs, v = .ref a ∧ SqL K B a vs ∧ Paired (At c K B) vs zs := by
  cases h with
  | lst h1 h2 => exact ⟨_, _, rfl, h1, of_dpAll h2⟩
theorem at_list_ref {zs : List α} (h : At (.list c) K B (.ref a) zs) : ∃ vs, SqL K B a vs ∧ Paired (At c K B) vs zs := by
  cases h with
  | lst h1 h2 => exact ⟨_, h1, of_dpAll h2⟩
theorem At.list {zs : List α} (h1 : SqL K B a vs) (h2 : Paired (At c K B) vs zs) : At (.list c) K B (.ref a) zs := .lst h1 (dpAll_of h2)
theorem at_tupL {zs : List α} (h : At (.tupL c) K B v zs) : ∃ a vs, v = .ref a ∧ SqT K B a vs ∧ Paired (At c K B) vs zs := by
  cases h with
  | tup h1 h2 => exact ⟨_, _, rfl, h1, of_dpAll h2⟩
theorem At.tupL {zs : List α} (h1 : SqT K B a vs) (h2 : Paired (At c K B) vs zs) : At (.tupL c) K B (.ref a) zs := .tup h1 (dpAll_of h2)
theorem at_tup2 {d : Cod β} {z : α × β} (h : At (.tup2 c d) K B v z) : ∃ a v1 v2, v = .ref a ∧ SqT K B a [v1, v2] ∧ At c K B v1 z.1 ∧ At d K B v2 z.2 := by
  cases h with
  | tup h1 h2 =>
    cases h2 with
    | cons g1 h2 =>
      cases h2 with
      | cons g2 h2 =>
        cases h2
        exact ⟨_, _, _, rfl, h1, g1, g2⟩
theorem At.tup2 {d : Cod β} {z : α × β} {v1 v2 : V} (h : SqT K B a [v1, v2]) (h1 : At c K B v1 z.1) (h2 : At d K B v2 z.2) : At (.tup2 c d) K B (.ref a) z := .tup h (.cons h1 (.cons h2 .nil))
theorem at_tup3 {γ : Type} {d : Cod β} {f : Cod γ} {z : α × β × γ} (h : At (.tup3 c d f) K B v z) : ∃ a v1 v2 v3, v = .ref a ∧ SqT K B a [v1, v2, v3] ∧ At c K B v1 z.1 ∧ At d K B v2 z.2.1 ∧ At f K B v3 z.2.2 := by
  cases h with
  | tup h1 h2 =>
    cases h2 with
    | cons g1 h2 =>
      cases h2 with
      | cons g2 h2 =>
        cases h2 with
        | cons g3 h2 =>
          cases h2
          exact ⟨_, _, _, _, rfl, h1, g1, g2, g3⟩
theorem At.tup3 {γ : Type} {d : Cod β} {f : Cod γ} {z : α × β × γ} {v1 v2 v3 : V} (h : SqT K B a [v1, v2, v3]) (h1 : At c K B v1 z.1) (h2 : At d K B v2 z.2.1) (h3 : At f K B v3 z.2.2) : At (.tup3 c d f) K B (.ref a) z := .tup h (.cons h1 (.cons h2 (.cons h3 .nil)))
theorem Cod.Pl (c : Cod α) (z : α) (h : c.dep ≤ 50) : Pl (c.enc z) := ⟨c.pl z, Nat.le_trans (c.dp z) h⟩
theorem Cod.dec [DecidableEq α] (c : Cod α) (z w : α) : PyData.eqv (c.enc z) (c.enc w) = decide (z = w) := by
  rw [Bool.eq_iff_iff, c.eq]
  simp
/-- == of two of a type -/
theorem y_eqC [DecidableEq α] (c : Cod α) {z w : α} (S : Sy e B H L) (h1 : At c K B x z) (h2 : At c K B y w) (hd : c.dep ≤ 50) (q : Q (.bl (decide (z = w))) H) : rEqZ K x y H Q :=
  .inr ⟨_, _, S.d h1, S.d h2, c.Pl z hd, c.Pl w hd, by rw [c.dec]; exact q⟩
theorem y_neC [DecidableEq α] (c : Cod α) {z w : α} (S : Sy e B H L) (h1 : At c K B x z) (h2 : At c K B y w) (hd : c.dep ≤ 50) (q : Q (.bl (!decide (z = w))) H) : rNeZ K x y H Q :=
  .inr ⟨_, _, S.d h1, S.d h2, c.Pl z hd, c.Pl w hd, by rw [c.dec]; exact q⟩
theorem any_enc [DecidableEq α] (c : Cod α) (z : α) (zs : List α) : ((zs.map c.enc).any fun d => PyData.eqv d (c.enc z)) = decide (z ∈ zs) := by
  rw [List.any_map, Bool.eq_iff_iff, List.any_eq_true]
  simp only [Function.comp_apply, c.eq, decide_eq_true_eq]
  constructor
  · rintro ⟨w, h1, rfl⟩; exact h1
  · intro h; exact ⟨z, h, rfl⟩
theorem y_inC [DecidableEq α] (c : Cod α) {z : α} {zs : List α} (S : Sy e B H L) (h1 : At c K B x z) (h2 : At (.list c) K B y zs) (hd : c.dep ≤ 50) (q : Q (.bl (decide (z ∈ zs))) H) : rInZ K x y H Q :=
  .inr ⟨_, _, S.d h1, .inl (S.d h2), c.pl z, plainAll_of fun d hd => (by obtain ⟨x, _, rfl⟩ := List.mem_map.mp hd; exact c.pl x), Nat.le_trans (c.dp z) hd, by rw [any_enc, Bool.false_xor]; exact q⟩
theorem y_notInC [DecidableEq α] (c : Cod α) {z : α} {zs : List α} (S : Sy e B H L) (h1 : At c K B x z) (h2 : At (.list c) K B y zs) (hd : c.dep ≤ 50) (q : Q (.bl (!decide (z ∈ zs))) H) : rNotInZ K x y H Q :=
  .inr ⟨_, _, S.d h1, .inl (S.d h2), c.pl z, plainAll_of fun d hd => (by obtain ⟨x, _, rfl⟩ := List.mem_map.mp hd; exact c.pl x), Nat.le_trans (c.dp z) hd, by rw [any_enc, Bool.true_xor]; exact q⟩
end
end Y
/-! Steps over the ledger by index; comprehensions over data; texts; kinds. -/
namespace Y
open PySem PySem.Spec PyProof.Rows L2
section
variable {K : PySem.W.Frag} {σ : L2.St} {e : En} {B B' H : Hp} {L : Led} {Q : VK} {E : XK} {te to : TE} {tt : TT} {ta : TA} {v x y : V} {xs ys vs ws : List V} {a b p l : Addr} {o : HO} {nx bk ct : L2.St → Hp → Prop} {rt : VK} {g : TG} {tb : TS} {φ : Ph}
theorem y_app (n : Nat) (S : Sy e B H L) (h : L[n]? = some (l, .lst xs)) (hl : xs.length < sizeLine) (k : ∀ H', Sy e B H' (L.set n (l, .lst (xs ++ [v]))) → Q .non H') : rAppend (.ref l) [v] H Q :=
  ⟨l, xs, v, rfl, rfl, S.at n h, hl, k _ (S.wr n h _)⟩
theorem y_ext (n : Nat) (S : Sy e B H L) (h : L[n]? = some (l, .lst xs)) (hb : H b = some (.lst ys)) (hl : xs.length + ys.length ≤ sizeLine) (k : ∀ H', Sy e B H' (L.set n (l, .lst (xs ++ ys))) → Q .non H') : rExtend (.ref l) [.ref b] H Q :=
  ⟨l, b, xs, ys, rfl, rfl, S.at n h, hb, hl, k _ (S.wr n h _)⟩
theorem y_setL {i : Int} {j : Nat} {N : Hp → Prop} (n : Nat) (S : Sy e B H L) (h : L[n]? = some (l, .lst xs)) (hj : ixN xs.length i = some j) (k : ∀ H', Sy e B H' (L.set n (l, .lst (xs.set j v))) → N H') : rSetU (.ref l) (.int i) v H N := .inl ⟨l, xs, i, j, rfl, rfl, S.at n h, hj, k _ (S.wr n h _)⟩
theorem y_setD {d : Addr} {kvs : List (Key × V)} {kk : Key} {N : Hp → Prop} (n : Nat) (S : Sy e B H L) (h : L[n]? = some (d, .dK kvs)) (hk : x = kV kk) (hl : kvs.length < sizeLine) (k : ∀ H', Sy e B H' (L.set n (d, .dK (putK kvs kk v))) → N H') : rSetU (.ref d) x v H N := .inr ⟨d, _, rfl, .inl ⟨kvs, kk, S.at n h, hk, hl, rfl⟩, k _ (S.wr n h _)⟩
/-- a call, handed the n-th of the ledger -/
theorem y_spN (n : Nat) (S : Sy e B H L) (h : L[n]? = some (a, o)) (k : φ B vs [(a, o)] fun B' v L' => ∀ H', Sy ⟨[a], [], B, H⟩ B' H' L' → Q v H') : spY φ vs H Q E := ⟨B, [(a, o)], S.handN n h, k⟩
/-- draws by the bag -/
theorem y_drawN {m : Nat} {many : Int} (n : Nat) (S : Sy e B H L) (h : L[n]? = some (b, o)) (hb : Bag m o) (hm : 0 < m) (h0 : 0 < many) (h1 : many < 2 ^ 100)
    (k : ∀ i o' H', 0 ≤ i → i < many → Bag (m - 1) o' → Sy e B H' (L.set n (b, o')) → Q (.int i) H') : spY φ_draw [.ref b, .int many] H Q E :=
  y_spN n S h ⟨b, o, many, m - 1, rfl, rfl, hb.mono (by omega), h0, h1, fun i o' a1 a2 a3 H' T => k i o' H' a1 a2 a3 (S.backN1 n h T)⟩
/-- a member of a list by a drawn place -/
theorem y_ixM {i : Int} (h : SqL K H p xs) (h0 : 0 ≤ i) (h1 : i < xs.length) (q : ∀ v, v ∈ xs → Q v H) : rIxU K (.ref p) (.int i) H Q := by
  obtain ⟨v, hv⟩ : ∃ v, xs[i.toNat]? = some v := ⟨_, List.getElem?_eq_getElem (show i.toNat < xs.length by omega)⟩
  exact y_ixL h (atI_of h0 hv) (q v (List.mem_of_getElem? hv))
theorem y_ixC {α : Type} {c : Cod α} {zs : List α} {i : Int} (S : Sy e B H L) (h : At (.list c) K B (.ref p) zs) (h0 : 0 ≤ i) (h1 : i < zs.length) (q : ∀ v z, zs[i.toNat]? = some z → At c K B v z → Q v H) : rIxU K (.ref p) (.int i) H Q := by
  obtain ⟨vs, h2, h3⟩ := at_list_ref h
  obtain ⟨z, hz⟩ : ∃ z, zs[i.toNat]? = some z := ⟨_, List.getElem?_eq_getElem (show i.toNat < zs.length by omega)⟩
  obtain ⟨v, hv, hvz⟩ := pr_get h3 hz
  exact y_ixL (S.l h2) (atI_of h0 hv) (q v z hz hvz)
/-! ### comprehensions over data -/
theorem y_lcC {α β : Type} {cx : Cod α} {cy : Cod β} {zs : List α} {ns : List Nat} (f : α → Option β) (S : Sy e B H L) (h : At (.list cx) K B (.ref a) zs) (hn : zs.length ≤ 100000)
    (hs : ∀ (i : Nat) z x B1 H1 D acc (Kp : VK) (Kn : Hp → Prop), zs[i]? = some z → Same B B1 → At cx K B1 x z → Sy e B1 H1 ((D, .lst acc) :: L) →
      (∀ y w B4 H4, f z = some w → Same B1 B4 → At cy K B4 y w → Sy e B4 H4 ((D, .lst acc) :: L) → Kp y H4) → (∀ B4 H4, f z = none → Same B1 B4 → Sy e B4 H4 ((D, .lst acc) :: L) → Kn H4) →
      g x (wipe σ ns) H1 fun σ2 H2 => wipe σ2 ns = wipe σ ns ∧ tt σ2 H2 fun b H3 => if b = true then te σ2 H3 Kp else Kn H3)
    (hd : ∀ D B' H' acc, Same B B' → e.H D = none → Paired (At cy K B') acc (zs.filterMap f) → Sy e B' H' ((D, .lst acc) :: L) → Q (.ref D) H') : LcG (Itl K a) g tt te ns σ Q H := by
  obtain ⟨vs, h2, h3⟩ := at_list_ref h
  have hl : vs.length = zs.length := h3.length
  refine y_lcRel (At cy K) at_up (walk_list (xs := vs)) S (by omega) (fun i => zs[i]?.bind f) (fun B1 H1 D acc b1 S1 => S1.l (up_l b1 h2)) (fun i x B1 H1 H1' acc D Kp Kn hi b1 S1 hy kp kn => ?_) (fun B1 H1 acc D b1 hD hp S1 => ?_)
  · obtain ⟨rfl, e2⟩ := hy
    obtain ⟨z, hz, hxz⟩ := pr_getL h3 e2
    exact hs i z x B1 _ D acc Kp Kn hz b1 (hxz.up b1) S1 (fun y w B4 H4 e1 => kp y w B4 H4 (by rw [hz]; exact e1)) (fun B4 H4 e1 => kn B4 H4 (by rw [hz]; exact e1))
  · rw [hl, range_bind] at hp
    exact hd D B1 H1 acc b1 hD hp S1
/-- .. the result is changed no more -/
theorem y_lcI {α β : Type} {cx : Cod α} {cy : Cod β} {zs : List α} {ns : List Nat} (f : α → Option β) (S : Sy e B H L) (h : At (.list cx) K B (.ref a) zs) (hn : zs.length ≤ 100000)
    (hs : ∀ (i : Nat) z x B1 H1 D acc (Kp : VK) (Kn : Hp → Prop), zs[i]? = some z → Same B B1 → At cx K B1 x z → Sy e B1 H1 ((D, .lst acc) :: L) →
      (∀ y w B4 H4, f z = some w → Same B1 B4 → At cy K B4 y w → Sy e B4 H4 ((D, .lst acc) :: L) → Kp y H4) → (∀ B4 H4, f z = none → Same B1 B4 → Sy e B4 H4 ((D, .lst acc) :: L) → Kn H4) →
      g x (wipe σ ns) H1 fun σ2 H2 => wipe σ2 ns = wipe σ ns ∧ tt σ2 H2 fun b H3 => if b = true then te σ2 H3 Kp else Kn H3)
    (hd : ∀ D B' H', Same B B' → e.H D = none → At (.list cy) K B' (.ref D) (zs.filterMap f) → Sy e B' H' L → Q (.ref D) H') : LcG (Itl K a) g tt te ns σ Q H := by
  refine y_lcC f S h hn hs fun D B1 H1 acc b1 hD hp S1 => ?_
  obtain ⟨b2, S2⟩ := S1.freeze hD
  exact hd D _ H1 (b1.trans b2) hD (.list (sqL upd_same) (pr_up at_up b2 hp)) S2
/-- one thing for each round; the ledger moves -/
theorem y_lcGen {β : Type} (c : Cod β) {J : It} {n : Nat} {G : Hp → Prop} {Y : Nat → Hp → V → Hp → Prop} {ns : List Nat} (good : β → Prop) (PL : Nat → Led → Prop) (w : Walk J n G Y) (S : Sy e B H L) (hn : n ≤ 100000) (h0 : PL 0 L)
    (hG : ∀ i B1 H1 D acc L1, Same B B1 → PL i L1 → Sy e B1 H1 ((D, .lst acc) :: L1) → G H1)
    (hs : ∀ i x B1 H1 H1' acc D L1 (Kp : VK) (Kn : Hp → Prop), i < n → Same B B1 → PL i L1 → Sy e B1 H1 ((D, .lst acc) :: L1) → Y i H1 x H1' →
      (∀ y z B4 H4 L4, good z → Same B1 B4 → At c K B4 y z → PL (i + 1) L4 → Sy e B4 H4 ((D, .lst acc) :: L4) → Kp y H4) →
      g x (wipe σ ns) H1' fun σ2 H2 => wipe σ2 ns = wipe σ ns ∧ tt σ2 H2 fun b H3 => if b = true then te σ2 H3 Kp else Kn H3)
    (hd : ∀ B1 H1 acc D L1 zs, Same B B1 → e.H D = none → zs.length = n → (∀ z ∈ zs, good z) → Paired (At c K B1) acc zs → PL n L1 → Sy e B1 H1 ((D, .lst acc) :: L1) → Q (.ref D) H1) : LcG J g tt te ns σ Q H := by
  refine y_lcG w S (fun i B1 acc L1 => PL i L1 ∧ i ≤ n ∧ ∃ zs : List β, zs.length = i ∧ (∀ z ∈ zs, good z) ∧ Paired (At c K B1) acc zs) ⟨h0, Nat.zero_le _, [], rfl, fun z h => (by cases h), .nil⟩ ?_ ?_ ?_
  · rintro i B1 H1 acc L1 D ⟨h1, _⟩ b1 S1
    exact hG i B1 H1 D acc L1 b1 h1 S1
  · rintro i x B1 H1 H1' acc L1 D Kp Kn hi ⟨h1, _, zs, e1, hg, hp⟩ b1 hD S1 hy kp kn
    refine hs i x B1 H1 H1' acc D L1 Kp Kn hi b1 h1 S1 hy (fun y z B4 H4 L4 gz b4 hy4 hP S4 => ?_)
    have hal : acc.length = i := by rw [← e1]; exact hp.length
    refine kp y H4 ⟨B4, acc, L4, S4, b1.trans b4, Nat.lt_of_lt_of_le (Nat.lt_of_le_of_lt (Nat.le_of_eq hal) hi) (Nat.le_trans hn (by rw [sizeLine_eq]; decide)), hP, hi, zs ++ [z], by simp [e1], fun q hq => ?_, Paired.snoc (pr_up at_up b4 hp) hy4⟩
    rcases List.mem_append.mp hq with hq | hq
    · exact hg q hq
    · have : q = z := by simpa using hq
      rw [this]; exact gz
  · rintro B1 H1 acc L1 D ⟨h1, _, zs, e1, hg, hp⟩ b1 hD S1
    exact hd B1 H1 acc D L1 zs b1 hD e1 hg hp h1 S1
/-! ### loops over data -/
theorem y_forC {α : Type} {c : Cod α} {zs : List α} (Pv : Nat → L2.St → Hp → Prop) (h : At (.list c) K B (.ref a) zs) (h0 : Pv 0 σ H) (hG : ∀ i σ H, i ≤ zs.length → Pv i σ H → ∃ B' L', Same B B' ∧ Sy e B' H L')
    (hs : ∀ i x z σ H, zs[i]? = some z → At c K B x z → Pv i σ H → g x σ H fun σ2 H2 => tb ⟨Pv (i + 1), rt, nx, Pv (i + 1)⟩ σ2 H2) (hd : ∀ σ H, Pv zs.length σ H → nx σ H) : ForG (Itl K a) g tb ⟨nx, rt, bk, ct⟩ σ H := by
  obtain ⟨vs, h2, h3⟩ := at_list_ref h
  have hl : vs.length = zs.length := h3.length
  refine y_forL (xs := vs) Pv h0 (fun i σ H hi hp => ?_) (fun i x σ H hx hp => ?_) (fun σ H hp => hd σ H (by rw [← hl]; exact hp))
  · obtain ⟨B', L', b, S⟩ := hG i σ H (by omega) hp
    exact S.l (up_l b h2)
  · obtain ⟨z, hz, hxz⟩ := pr_getL h3 hx
    exact hs i x z σ H hz hxz hp
/-! ### texts -/
theorem y_m0 {r : V → List V → Hp → VK → Prop} (h : to σ H fun x H1 => (∃ a, x = .str a) ∧ r x [] H1 Q) : tM0 r to σ H Q := h
theorem y_m1 {r : V → List V → Hp → VK → Prop} (h : to σ H fun x H1 => (∃ a, x = .str a) ∧ te σ H1 fun y H2 => r x [y] H2 Q) : tM1 r to te σ H Q := h
def rJoin (K : PySem.W.Frag) : V → List V → Hp → VK → Prop := fun x xs H Q => ∃ a p, ∃ ys : List Str, x = .str a ∧ xs = [.ref p] ∧ (SqL K H p (ys.map V.str) ∨ SqT K H p (ys.map V.str)) ∧ (ys.map (·.length)).sum + ys.length * a.length ≤ 16777216 ∧ Q (.str (Txt.join a ys)) H
theorem pe_joinU {X : Cx} {o e : Expr} {to te : TE} {apos pos : Pos} (hK : X.K = K) (ho : PE X o to) (he : PE X e te) (hs : starEach [e] X.env = [(false, eval e X.env)] := by rfl) (hbase : attributeBase o "join" X.env (eval o X.env) = eval o X.env := by rfl) (hline : (apos.endLine == pos.line) = true := by rfl) :
    PE X (.Call (.Attribute o "join" apos) [e] [] pos) (tM1 (rJoin K) to te) := hK ▸ pe_join ho he hs hbase hline
def rFind : V → List V → Hp → VK → Prop := fun x xs H Q => ∃ a b, x = .str a ∧ xs = [.str b] ∧ Q (.int (Txt.find a b)) H
theorem mt_findU {X : Cx} : MtR X "str.find" rFind := mt_find
def rSIndex : V → List V → Hp → VK → Prop := fun x xs H Q => ∃ a b i rest, x = .str a ∧ xs = [.str b] ∧ Builtin.Str.occurrences a b 0 a.length 1 = i :: rest ∧ Q (.int (i : Nat)) H
theorem mt_sindexU {X : Cx} : MtR X "str.index" rSIndex := mt_sindex
theorem strs_of : ∀ {vs : List V} {zs : List Str}, Paired (At .str K B) vs zs → vs = zs.map V.str
  | _, _, .nil => rfl
  | _, _, .cons h t => by rw [at_str h, strs_of t]; rfl
theorem ints_of : ∀ {vs : List V} {zs : List Int}, Paired (At .int K B) vs zs → vs = zs.map V.int
  | _, _, .nil => rfl
  | _, _, .cons h t => by rw [at_int h, ints_of t]; rfl
theorem bools_of : ∀ {vs : List V} {zs : List Bool}, Paired (At .bool K B) vs zs → vs = zs.map V.bl
  | _, _, .nil => rfl
  | _, _, .cons h t => by rw [at_bool h, bools_of t]; rfl
theorem y_join {z : Str} {zs : List Str} (h : SqL K H p (zs.map V.str)) (hl : (zs.map (·.length)).sum + zs.length * z.length ≤ 16777216) (q : Q (.str (Txt.join z zs)) H) : rJoin K (.str z) [.ref p] H Q := ⟨z, p, zs, rfl, rfl, .inl h, hl, q⟩
/-! ### kinds -/
/-- a value of a built-in kind -/
inductive Kd (K : PySem.W.Frag) (B : Hp) : V → String → Prop where
  | non : Kd K B .non "NoneType"
  | bl (b : Bool) : Kd K B (.bl b) "bool"
  | int (i : Int) : Kd K B (.int i) "int"
  | str (z : Str) : Kd K B (.str z) "str"
  | lst {a : Addr} {xs : List V} (h : SqL K B a xs) : Kd K B (.ref a) "list"
  | tup {a : Addr} {xs : List V} (h : SqT K B a xs) : Kd K B (.ref a) "tuple"
  | dic {a : Addr} {kvs : List (Key × V)} (h : Rd B a (.dK kvs)) : Kd K B (.ref a) "dict"
theorem Kd.up {s : String} (b : Sub B B') (h : Kd K B v s) : Kd K B' v s := by
  cases h with
  | non => exact .non
  | bl b => exact .bl b
  | int i => exact .int i
  | str z => exact .str z
  | lst h => exact .lst (b.l h)
  | tup h => exact .tup (b.t h)
  | dic h => exact .dic (b.rd h)
theorem Kd.ty {s : String} (h : Kd K H v s) : TyX K H v (.type s) := by
  cases h with
  | non => exact .base .non
  | bl b => exact .base (.bl b)
  | int i => exact .base (.int i)
  | str z => exact .base (.str z)
  | lst h =>
    rcases h with h | ⟨o, its, n, h1, h2, _⟩
    · rcases h with h | ⟨ob, h⟩
      · exact .base (.lst h)
      · exact .base (.frz h)
    · exact .kList h1 h2
  | tup h =>
    rcases h with h | ⟨o, its, n, h1, h2, _⟩
    · rcases h with h | ⟨ob, h⟩
      · exact .base (.tup h)
      · exact .fTuple h
    · exact .kTuple h1 h2
  | dic h =>
    rcases h with h | ⟨ob, h⟩
    · exact .base (.dK h)
    · exact .fDict h
theorem y_isi {s t : String} {r : Bool} (h : Kd K H x s) (hr : kitB s t = some r) (q : Q (.bl r) H) : rIsi K [x, .ty t] H Q := ⟨x, .ty t, .type s, .type t, r, rfl, .ty t, h.ty, kit_ty hr, q⟩
def kdOf : PyData → String
  | .none => "NoneType"
  | .bool _ => "bool"
  | .int _ => "int"
  | .str _ => "str"
  | .list _ => "list"
  | .tuple _ => "tuple"
  | .dict _ => "dict"
theorem Kd.of {d : PyData} (h : Dp K B v d) : Kd K B v (kdOf d) := by
  cases h with
  | non => exact .non
  | bl b => exact .bl b
  | int i => exact .int i
  | str z => exact .str z
  | lst h _ => exact .lst h
  | tup h _ => exact .tup h
end

/-! ### the wider operators by kinds -/
section
variable {K : PySem.W.Frag} {H : Hp} {Q : VK} {x y : V}
theorem z_eqI {i j : Int} (q : Q (.bl (decide (V.int i = V.int j))) H) : rEqZ K (.int i) (.int j) H Q := .inl (y_eqI q)
theorem z_eqS {i j : Str} (q : Q (.bl (decide (V.str i = V.str j))) H) : rEqZ K (.str i) (.str j) H Q := .inl (y_eqS q)
theorem z_neI {i j : Int} (q : Q (.bl (!decide (V.int i = V.int j))) H) : rNeZ K (.int i) (.int j) H Q := .inl (y_neI q)
theorem z_neS {i j : Str} (q : Q (.bl (!decide (V.str i = V.str j))) H) : rNeZ K (.str i) (.str j) H Q := .inl (y_neS q)
theorem z_eqE {a b : Addr} {xs : List V} (h1 : SqL K H a xs) (h2 : SqL K H b []) (q : Q (.bl xs.isEmpty) H) : rEqZ K (.ref a) (.ref b) H Q := .inl (y_eqE h1 h2 q)
theorem z_neE {a b : Addr} {xs : List V} (h1 : SqL K H a xs) (h2 : SqL K H b []) (q : Q (.bl (!xs.isEmpty)) H) : rNeZ K (.ref a) (.ref b) H Q := .inl (y_neE h1 h2 q)
theorem z_neNI {i : Int} (q : Q (.bl true) H) : rNeZ K .non (.int i) H Q := .inl (.inl ⟨rfl, q⟩)
theorem z_neIN {i : Int} (q : Q (.bl true) H) : rNeZ K (.int i) .non H Q := .inl (.inl ⟨rfl, q⟩)
theorem z_neNN (q : Q (.bl false) H) : rNeZ K .non .non H Q := .inl (.inl ⟨rfl, q⟩)
theorem z_neB {i j : Bool} (q : Q (.bl (!decide (V.bl i = V.bl j))) H) : rNeZ K (.bl i) (.bl j) H Q := .inl (.inl ⟨rfl, q⟩)
theorem z_eqB {i j : Bool} (q : Q (.bl (decide (V.bl i = V.bl j))) H) : rEqZ K (.bl i) (.bl j) H Q := .inl (.inl ⟨rfl, q⟩)
theorem z_inSg {c : Nat} {z : Str} (q : Q (.bl (decide (c ∈ z.cps.toList))) H) : rInZ K (.str ⟨#[c]⟩) (.str z) H Q := .inl (y_inSg q)
theorem z_notInSg {c : Nat} {z : Str} (q : Q (.bl (!decide (c ∈ z.cps.toList))) H) : rNotInZ K (.str ⟨#[c]⟩) (.str z) H Q := .inl (y_notInSg q)
theorem z_inD {a : Addr} {kvs : List (Key × V)} {k : Key} (h : Rd H a (.dK kvs)) (hk : x = kV k) (q : Q (.bl (valV kvs k).isSome) H) : rInZ K x (.ref a) H Q := .inl (y_inD h hk q)
theorem z_notInD {a : Addr} {kvs : List (Key × V)} {k : Key} (h : Rd H a (.dK kvs)) (hk : x = kV k) (q : Q (.bl (!(valV kvs k).isSome)) H) : rNotInZ K x (.ref a) H Q := .inl (y_notInD h hk q)
end
/-- {k: v} -/
theorem y_disp1 {σ : L2.St} {e : En} {B H : Hp} {L : Led} {Q : VK} {tk tv : TE} (S : Sy e B H L) (h : ∀ p H1, e.H p = none → Sy e B H1 ((p, .dK []) :: L) → tk σ H1 fun x H2 => tv σ H2 fun y H3 => ∃ B3 kk, x = kV kk ∧ Sy e B3 H3 ((p, .dK []) :: L) ∧ ∀ H4, Sy e B3 H4 ((p, .dK [(kk, y)]) :: L) → Q (.ref p) H4)
    (mk : ∀ (H : Hp) (Q Q' : VK), (∀ x H, Q x H → Q' x H) → tk σ H Q → tk σ H Q') (mv : ∀ (H : Hp) (Q Q' : VK), (∀ x H, Q x H → Q' x H) → tv σ H Q → tv σ H Q') : tDisp [(tk, tv)] σ H Q := by
  intro p hp
  obtain ⟨h1, S1⟩ := S.newM (o := .dK []) hp
  refine mk _ _ _ (fun x H2 q => ?_) (h p _ h1 S1)
  refine mv _ _ _ (fun y H3 q => ?_) q
  obtain ⟨B3, kk, rfl, S3, q⟩ := q
  exact ⟨S3.g0, [(kk, y)], rfl, by simp, q _ (S3.w0 _)⟩
theorem tC_mono {σ : L2.St} {v : V} : ∀ (H : Hp) (Q Q' : VK), (∀ x H, Q x H → Q' x H) → tC v σ H Q → tC v σ H Q' := fun H Q Q' h q => h _ _ q
/-- a comprehension that leaves out, over a list of the ledger -/
theorem y_lcP {α : Type} {K : PySem.W.Frag} {σ : L2.St} {e : En} {B H : Hp} {L : Led} {Q : VK} {te : TE} {tt : TT} {g : TG} {a : Addr} {ws : List V} {zs : List α} {ns : List Nat} {R : Hp → V → α → Prop} (up : ∀ B B' v z, Same B B' → R B v z → R B' v z) (p : α → Bool) (n : Nat) (S : Sy e B H L) (h : L[n]? = some (a, .lst ws)) (hp : Paired (R B) ws zs) (hn : zs.length ≤ 100000)
    (hs : ∀ (i : Nat) z x B1 H1 D acc (Kp : VK) (Kn : Hp → Prop), zs[i]? = some z → Same B B1 → R B1 x z → Sy e B1 H1 ((D, .lst acc) :: L) →
      (∀ H4, p z = true → Sy e B1 H4 ((D, .lst acc) :: L) → Kp x H4) → (∀ H4, p z = false → Sy e B1 H4 ((D, .lst acc) :: L) → Kn H4) →
      g x (wipe σ ns) H1 fun σ2 H2 => wipe σ2 ns = wipe σ ns ∧ tt σ2 H2 fun b H3 => if b = true then te σ2 H3 Kp else Kn H3)
    (hd : ∀ D B' H' acc, Same B B' → e.H D = none → Paired (R B') acc (zs.filter p) → Sy e B' H' ((D, .lst acc) :: L) → Q (.ref D) H') : LcG (Itl K a) g tt te ns σ Q H := by
  have hl : ws.length = zs.length := hp.length
  refine y_lcRel R up (walk_list (xs := ws)) S (by omega) (fun i => zs[i]?.bind fun z => if p z = true then some z else none) (fun B1 H1 D acc b1 S1 => sqL (S1.at (n + 1) (by simpa using h))) (fun i x B1 H1 H1' acc D Kp Kn hi b1 S1 hy kp kn => ?_) (fun B1 H1 acc D b1 hD hq S1 => ?_)
  · obtain ⟨rfl, e2⟩ := hy
    obtain ⟨z, hz, hxz⟩ := pr_getL hp e2
    refine hs i z x B1 _ D acc Kp Kn hz b1 (up _ _ _ _ b1 hxz) S1 (fun H4 e1 S4 => kp x z B1 H4 (by rw [hz]; exact if_pos e1) (Same.refl _) (up _ _ _ _ b1 hxz) S4) (fun H4 e1 S4 => kn B1 H4 (by rw [hz]; exact if_neg (by rw [e1]; exact Bool.false_ne_true)) (Same.refl _) S4)
  · rw [hl, range_bind, fm_if] at hq
    exact hd D B1 H1 acc b1 hD hq S1
end Y
/-! Texts as lists of signs; keys. -/
namespace Y
open PySem PySem.Spec PyProof.Rows L2
/-- the signs of a text -/
abbrev sg (z : Str) : List Nat := z.cps.toList
theorem sg_len (z : Str) : (sg z).length = z.length := by simp [sg, Str.length]
theorem sg_ext {x y : Str} (h : sg x = sg y) : x = y := TL.ext_tl h
theorem sg_app (x y : Str) : sg (x ++ y) = sg x ++ sg y := TL.tl_append x y
theorem sg_one (c : Nat) : sg ⟨#[c]⟩ = [c] := rfl
theorem len_app (x y : Str) : (x ++ y).length = x.length + y.length := by rw [← sg_len, sg_app, List.length_append, sg_len, sg_len]
theorem len_one (c : Nat) : (⟨#[c]⟩ : Str).length = 1 := rfl
theorem sg_cut (z : Str) (lo hi : Option Int) : sg (cutS z lo hi) = ((sg z).drop (HT.sIx z.length 0 lo)).take (HT.sIx z.length z.length hi - HT.sIx z.length 0 lo) := rfl
theorem sg_cutTo (z : Str) {i : Int} (h : 0 ≤ i) : sg (cutS z none (some i)) = (sg z).take i.toNat := by
  rw [sg_cut]
  obtain ⟨n, rfl⟩ := Int.eq_ofNat_of_zero_le h
  rw [HT.sIx_none, HT.sIx_nat, List.drop_zero, Nat.sub_zero, Int.toNat_natCast, ← sg_len]
  by_cases c : n ≤ (sg z).length
  · rw [Nat.min_eq_left c]
  · rw [Nat.min_eq_right (by omega), List.take_length, List.take_of_length_le (by omega)]
theorem sg_cutFrom (z : Str) {i : Int} (h : 0 ≤ i) : sg (cutS z (some i) none) = (sg z).drop i.toNat := by
  rw [sg_cut]
  obtain ⟨n, rfl⟩ := Int.eq_ofNat_of_zero_le h
  rw [HT.sIx_none, HT.sIx_nat, Int.toNat_natCast, ← sg_len]
  by_cases c : n ≤ (sg z).length
  · rw [Nat.min_eq_left c]
    exact List.take_of_length_le (by rw [List.length_drop]; exact Nat.le_refl _)
  · rw [Nat.min_eq_right (by omega), List.drop_length, List.drop_of_length_le (by omega)]
    simp
theorem len_cut (z : Str) (lo hi : Option Int) : (cutS z lo hi).length ≤ z.length := cutS_length z lo hi
theorem len_cutTo (z : Str) {i : Int} (h : 0 ≤ i) : (cutS z none (some i)).length = min i.toNat z.length := by rw [← sg_len, sg_cutTo z h, List.length_take, sg_len]
theorem len_cutFrom (z : Str) {i : Int} (h : 0 ≤ i) : (cutS z (some i) none).length = z.length - i.toNat := by rw [← sg_len, sg_cutFrom z h, List.length_drop, sg_len]
theorem mem_cut {z : Str} {lo hi : Option Int} {c : Nat} (h : c ∈ sg (cutS z lo hi)) : c ∈ sg z := List.mem_of_mem_drop (List.mem_of_mem_take h)
theorem joinL_nil : ∀ ps : List (List Nat), TL.joinL [] ps = ps.flatten
  | [] => rfl
  | [p] => by simp [TL.joinL]
  | p :: q :: r => by
    rw [TL.joinL, joinL_nil (q :: r)]
    simp
theorem sg_glue {e : Str} (he : sg e = []) (zs : List Str) : sg (Txt.join e zs) = (zs.map sg).flatten := by
  show TL.tl (Txt.join e zs) = _
  rw [TL.join_eq, TL.tl_join, show TL.tl e = [] from he, joinL_nil]
/-- small letters -/
def Letters (z : Str) : Prop := ∀ c ∈ sg z, 97 ≤ c ∧ c ≤ 122
def KeyE (z : Str) : Prop := z.length ≤ 8 ∧ Letters z
def KeyS (z : Str) : Prop := (1 ≤ z.length ∧ z.length ≤ 8) ∧ Letters z
theorem KeyS.e {z : Str} (h : KeyS z) : KeyE z := ⟨h.1.2, h.2⟩
theorem Letters.app {x y : Str} (h1 : Letters x) (h2 : Letters y) : Letters (x ++ y) := fun c hc => by
  rw [sg_app] at hc
  rcases List.mem_append.mp hc with hc | hc
  · exact h1 c hc
  · exact h2 c hc
theorem Letters.cut {x : Str} {lo hi : Option Int} (h : Letters x) : Letters (cutS x lo hi) := fun c hc => h c (mem_cut hc)
theorem Letters.one {c : Nat} (h : 97 ≤ c ∧ c ≤ 122) : Letters ⟨#[c]⟩ := fun d hd => by
  have : d = c := by simpa [sg] using hd
  rw [this]; exact h
theorem flat_one : ∀ {zs : List Str}, (∀ z ∈ zs, ∃ c, z = ⟨#[c]⟩ ∧ 97 ≤ c ∧ c ≤ 122) → ((zs.map sg).flatten).length = zs.length ∧ ∀ c ∈ (zs.map sg).flatten, 97 ≤ c ∧ c ≤ 122
  | [], _ => ⟨rfl, fun c h => by cases h⟩
  | z :: zs, h => by
    obtain ⟨c, rfl, hc⟩ := h z List.mem_cons_self
    obtain ⟨h1, h2⟩ := flat_one (zs := zs) fun z hz => h z (List.mem_cons_of_mem _ hz)
    refine ⟨by rw [List.map_cons, List.flatten_cons, List.length_append, h1]; simp [sg]; omega, fun d hd => ?_⟩
    rw [List.map_cons, List.flatten_cons] at hd
    rcases List.mem_append.mp hd with hd | hd
    · have : d = c := by simpa [sg] using hd
      rw [this]; exact hc
    · exact h2 d hd
theorem sum_one : ∀ {zs : List Str}, (∀ z ∈ zs, ∃ c, z = ⟨#[c]⟩ ∧ 97 ≤ c ∧ c ≤ 122) → (zs.map (·.length)).sum = zs.length
  | [], _ => rfl
  | z :: zs, h => by
    obtain ⟨c, rfl, hc⟩ := h z List.mem_cons_self
    rw [List.map_cons, List.sum_cons, sum_one fun z hz => h z (List.mem_cons_of_mem _ hz), List.length_cons, len_one]
    omega
/-- single letters glued -/
theorem glue_letters {e : Str} {zs : List Str} (he : sg e = []) (h : ∀ z ∈ zs, ∃ c, z = ⟨#[c]⟩ ∧ 97 ≤ c ∧ c ≤ 122) : (Txt.join e zs).length = zs.length ∧ Letters (Txt.join e zs) := by
  obtain ⟨h1, h2⟩ := flat_one h
  refine ⟨by rw [← sg_len, sg_glue he]; exact h1, fun c hc => ?_⟩
  rw [sg_glue he] at hc
  exact h2 c hc
/-- a sign of a written text -/
theorem y_ixSM {K : PySem.W.Frag} {H : Hp} {Q : VK} {z : Str} {i : Int} (hz : z.length ≤ 100000) (h0 : 0 ≤ i) (h1 : i < z.length) (q : ∀ c, c ∈ sg z → (sg z)[i.toNat]? = some c → Q (.str ⟨#[c]⟩) H) : rIxU K (.str z) (.int i) H Q := by
  obtain ⟨c, hc⟩ : ∃ c, (sg z)[i.toNat]? = some c := ⟨_, List.getElem?_eq_getElem (show i.toNat < (sg z).length by rw [sg_len]; omega)⟩
  exact y_ixS (lenOk hz) (atI_of h0 hc) (q c (List.mem_of_getElem? hc) hc)
theorem ltr_of {c : Nat} (h : c ∈ sg "abcdefghijklmnopqrstuvwxyz") : 97 ≤ c ∧ c ≤ 122 := by
  have all : ∀ c ∈ sg ("abcdefghijklmnopqrstuvwxyz" : Str), 97 ≤ c ∧ c ≤ 122 := by decide +kernel
  exact all c h
theorem ltr_iff {c : Nat} : c ∈ sg "abcdefghijklmnopqrstuvwxyz" ↔ 97 ≤ c ∧ c ≤ 122 := by
  refine ⟨ltr_of, fun h => ?_⟩
  have all : ∀ k : Fin 26, 97 + k.val ∈ sg ("abcdefghijklmnopqrstuvwxyz" : Str) := by decide +kernel
  have := all ⟨c - 97, by omega⟩
  rw [show 97 + (c - 97) = c by omega] at this
  exact this
theorem occ_ltr {c : Nat} (h : 97 ≤ c ∧ c ≤ 122) : Builtin.Str.occurrences "abcdefghijklmnopqrstuvwxyz" ⟨#[c]⟩ 0 ("abcdefghijklmnopqrstuvwxyz" : Str).length 1 = [c - 97] := by
  have all : ∀ k : Fin 26, Builtin.Str.occurrences "abcdefghijklmnopqrstuvwxyz" ⟨#[97 + k.val]⟩ 0 ("abcdefghijklmnopqrstuvwxyz" : Str).length 1 = [k.val] := by decide +kernel
  have := all ⟨c - 97, by omega⟩
  rw [show 97 + (c - 97) = c by omega] at this
  exact this
theorem find_ltr {c : Nat} (h : 97 ≤ c ∧ c ≤ 122) : Txt.find "abcdefghijklmnopqrstuvwxyz" ⟨#[c]⟩ = ((c - 97 : Nat) : Int) := by
  unfold Txt.find
  rw [occ_ltr h]
/-- a key, told by a Bool -/
def keyB (z : Str) : Bool := decide (1 ≤ z.length) && decide (z.length ≤ 8) && (sg z).all fun c => decide (c ∈ sg "abcdefghijklmnopqrstuvwxyz")
theorem keyB_iff {z : Str} : keyB z = true ↔ KeyS z := by
  unfold keyB KeyS Letters
  rw [Bool.and_eq_true, Bool.and_eq_true, decide_eq_true_eq, decide_eq_true_eq, List.all_eq_true]
  simp only [decide_eq_true_eq, ltr_iff]
/-- a comprehension over a text's signs -/
theorem y_lcStr {β : Type} {cy : Cod β} {K : PySem.W.Frag} {σ : L2.St} {e : En} {B H : Hp} {L : Led} {Q : VK} {te : TE} {tt : TT} {g : TG} {z : Str} {ns : List Nat} (f : Nat → Option β) (S : Sy e B H L) (hn : z.length ≤ 100000)
    (hs : ∀ c B1 H1 D acc (Kp : VK) (Kn : Hp → Prop), c ∈ sg z → Same B B1 → Sy e B1 H1 ((D, .lst acc) :: L) →
      (∀ y w B4 H4, f c = some w → Same B1 B4 → At cy K B4 y w → Sy e B4 H4 ((D, .lst acc) :: L) → Kp y H4) → (∀ B4 H4, f c = none → Same B1 B4 → Sy e B4 H4 ((D, .lst acc) :: L) → Kn H4) →
      g (.str ⟨#[c]⟩) (wipe σ ns) H1 fun σ2 H2 => wipe σ2 ns = wipe σ ns ∧ tt σ2 H2 fun b H3 => if b = true then te σ2 H3 Kp else Kn H3)
    (hd : ∀ D B' H', Same B B' → e.H D = none → At (.list cy) K B' (.ref D) ((sg z).filterMap f) → Sy e B' H' L → Q (.ref D) H') : LcG (Its z) g tt te ns σ Q H := by
  have hl : (sg z).length = z.cps.size := by simp [sg]
  refine y_lcRel (At cy K) at_up walk_str S (by rw [← hl, sg_len]; exact hn) (fun i => (sg z)[i]?.bind f) (fun B1 H1 D acc b1 S1 => trivial) (fun i x B1 H1 H1' acc D Kp Kn hi b1 S1 hy kp kn => ?_) (fun B1 H1 acc D b1 hD hp S1 => ?_)
  · obtain ⟨rfl, c, e2, rfl⟩ := hy
    have hc : (sg z)[i]? = some c := by rw [← e2]; simp [sg]
    exact hs c B1 _ D acc Kp Kn (List.mem_of_getElem? hc) b1 S1 (fun y w B4 H4 e1 => kp y w B4 H4 (by rw [hc]; exact e1)) (fun B4 H4 e1 => kn B4 H4 (by rw [hc]; exact e1))
  · rw [← hl, range_bind] at hp
    obtain ⟨b2, S2⟩ := S1.freeze hD
    exact hd D _ H1 (b1.trans b2) hD (.list (sqL upd_same) (pr_up at_up b2 hp)) S2
end Y
/-! Own classes: methods by their promises, fields, new instances. -/
namespace Y
open PySem PySem.Spec PyProof.Rows L2
/-- the method m of the class at C keeps the promise sp; the last ones by their defaults -/
def OkM (P : Program) (w : World) (K : PySem.W.Frag) (mg : Str → Option Value) (base : Heap) (C : Addr) (k : Nat) (m : Str) (ps : List Str) (dvs : List V) (sp : Sp) : Prop :=
  ∃ f fd ds, Meth K C m f ∧ Vals dvs ds ∧ Binds K fd ps ds ∧ FnOk P w K mg base CX0 k f fd ps sp
def OkMN (P : Program) (w : World) (K : PySem.W.Frag) (mg : Str → Option Value) (base : Heap) (C : Addr) (k : Nat) (m : Str) (ps : List Str) (n : Nat) (ks : List Str) (gV : List V → List V → List V) (sp : Sp) : Prop :=
  ∃ f fd g, Meth K C m f ∧ KBn K fd ps n ks g gV ∧ FnOk P w K mg base CX0 k f fd ps sp
/-- .. the making of an instance -/
def OkI (P : Program) (w : World) (K : PySem.W.Frag) (mg : Str → Option Value) (base : Heap) (C : Addr) (k : Nat) (x : Str) (ps : List Str) (dvs : List V) (sp : Sp) : Prop :=
  ∃ f fd ds, Mk K C f ∧ mg x = some (.ref C) ∧ Vals dvs ds ∧ Binds K fd ps ds ∧ FnOk P w K mg base CX0 k f fd ps sp
def OkIN (P : Program) (w : World) (K : PySem.W.Frag) (mg : Str → Option Value) (base : Heap) (C : Addr) (k : Nat) (x : Str) (ps : List Str) (n : Nat) (ks : List Str) (gV : List V → List V → List V) (sp : Sp) : Prop :=
  ∃ f fd g, Mk K C f ∧ mg x = some (.ref C) ∧ KBn K fd ps n ks g gV ∧ FnOk P w K mg base CX0 k f fd ps sp
/-- o.m(.., k = v, ..) -/
def tMethN (C : Addr) (m : Str) (n q : Nat) (sp : Sp) (gV : List V → List V → List V) (E : XK) (ta : TE) (t tk : TA) : TE := fun σ H Q => ta σ H fun x H1 => ∃ a dx fs, x = .ref a ∧ H1 a = some (.ins C dx fs) ∧ fs.lookup m = none ∧
  t σ H1 fun vs H2 => tk σ H2 fun zs H3 => (x :: vs).length = n ∧ zs.length = q ∧ sp (gV (x :: vs) zs) H3 Q E
section
variable {X : Cx} {k n : Nat} {C : Addr} {m x : Str} {ps ks : List Str} {sp : Sp} {apos pos p : Pos} {o e : Expr} {es : List Expr} {ta : TE} {t tk : TA} {dvs : List V} {gV : List V → List V → List V} {kws : List Keyword} {pl : Sem Bool}
theorem pe_mO (O : OkM X.prog X.w X.K X.mg X.base C k m ps dvs sp) (c : Cls X.K C) (hr : Room k X.A) (he : PE X o ta) (ha : PA X (e :: es) t)
    (hst : starEach (e :: es) X.env = (false, eval e X.env) :: starEach es X.env := by rfl) (hpl : (backTo pos (starEach es X.env)).any (·.1) = false := by rfl)
    (ht : eval (.Call (.Attribute o m apos) (e :: es) [] pos) X.env = (do
      let ov ← eval o X.env
      standAt apos.atName
      let (f, first) ← holding [ov] (getMethod ov m pl)
      callWith pos f first (backTo pos (starEach (e :: es) X.env)) (backToKw pos (keywordEach [] X.env))) := by rfl) :
    PE X (.Call (.Attribute o m apos) (e :: es) [] pos) (tMeth C m sp dvs E0 ta t) := by
  obtain ⟨f, fd, ds, h1, h2, h3, h4⟩ := O
  exact pe_meth he c h1 h4 hr h3 h2 pass0 ha hst hpl ht
theorem pe_mO0 (O : OkM X.prog X.w X.K X.mg X.base C k m ps dvs sp) (c : Cls X.K C) (hr : Room k X.A) (he : PE X o ta)
    (ht : eval (.Call (.Attribute o m apos) [] [] pos) X.env = (do
      let ov ← eval o X.env
      standAt apos.atName
      let (f, first) ← holding [ov] (getMethod ov m pl)
      callWith pos f first (backTo pos (starEach [] X.env)) (backToKw pos (keywordEach [] X.env))) := by rfl) :
    PE X (.Call (.Attribute o m apos) [] [] pos) (tMeth C m sp dvs E0 ta tNil) := by
  obtain ⟨f, fd, ds, h1, h2, h3, h4⟩ := O
  exact pe_meth0 he c h1 h4 hr h3 h2 pass0 ht
theorem pe_mON (O : OkMN X.prog X.w X.K X.mg X.base C k m ps n ks gV sp) (c : Cls X.K C) (hr : Room k X.A) (he : PE X o ta) (ha : PA X (e :: es) t) (hkw : PK X kws tk)
    (hall : (backToKw pos (keywordEach kws X.env)).all (·.1.isSome) = true := by rfl) (hks : (backToKw pos (keywordEach kws X.env)).filterMap (·.1) = ks := by rfl)
    (hst : starEach (e :: es) X.env = (false, eval e X.env) :: starEach es X.env := by rfl) (hpl : ((backTo pos (starEach (e :: es) X.env)).any (·.1) || (backToKw pos (keywordEach kws X.env)).any (·.1.isNone)) = false := by rfl)
    (ht : eval (.Call (.Attribute o m apos) (e :: es) kws pos) X.env = (do
      let ov ← eval o X.env
      standAt apos.atName
      let (f, first) ← holding [ov] (getMethod ov m pl)
      callWith pos f first (backTo pos (starEach (e :: es) X.env)) (backToKw pos (keywordEach kws X.env))) := by rfl) :
    PE X (.Call (.Attribute o m apos) (e :: es) kws pos) (tMethN C m n ks.length sp gV E0 ta t tk) := by
  obtain ⟨f, fd, g, hm, hb, F⟩ := O
  refine ⟨fun pins s σ H Q I h => ?_⟩
  refine PySem.W.methodCall_KW (pl := pl) (thn (he.run pins s σ H _ I h) fun u s1 ⟨x, H1, I1, rx, a, dx, fs, ex, ea, l, q⟩ => ?_) ht
  subst ex
  obtain rfl : u = Value.ref a := rx
  refine getmeth_ok I1 ea c hm l ?_
  refine PySem.W.callWith_KW (first := [.ref a]) (h₀ := X.base) I.ok.mod.kin hm.kp hall (thn (ha.run pos pins s1 σ H1 _ I1 q) fun us s2 ⟨vs, H2, I2, r, q2⟩ => ?_) hpl hst
  refine thn (hkw.run pos pins s2 σ H2 _ I2 q2) fun ws s3 ⟨zs, H3, I3, rz, l1, l2, q3⟩ => ⟨I3.kIn, ?_⟩
  rw [hks]
  exact run_fnN (us := .ref a :: us) (vs := .ref a :: vs) F hr hb pass0 I3 (.cons rfl r) rz l1 l2 q3
theorem pe_mON0 (O : OkMN X.prog X.w X.K X.mg X.base C k m ps n ks gV sp) (c : Cls X.K C) (hr : Room k X.A) (he : PE X o ta) (hkw : PK X kws tk)
    (hall : (backToKw pos (keywordEach kws X.env)).all (·.1.isSome) = true := by rfl) (hks : (backToKw pos (keywordEach kws X.env)).filterMap (·.1) = ks := by rfl)
    (hpl : ((backTo pos (starEach [] X.env)).any (·.1) || (backToKw pos (keywordEach kws X.env)).any (·.1.isNone)) = false := by rfl)
    (ht : eval (.Call (.Attribute o m apos) [] kws pos) X.env = (do
      let ov ← eval o X.env
      standAt apos.atName
      let (f, first) ← holding [ov] (getMethod ov m pl)
      callWith pos f first (backTo pos (starEach [] X.env)) (backToKw pos (keywordEach kws X.env))) := by rfl) :
    PE X (.Call (.Attribute o m apos) [] kws pos) (tMethN C m n ks.length sp gV E0 ta tNil tk) := by
  obtain ⟨f, fd, g, hm, hb, F⟩ := O
  refine ⟨fun pins s σ H Q I h => ?_⟩
  refine PySem.W.methodCall_KW (pl := pl) (thn (he.run pins s σ H _ I h) fun u s1 ⟨x, H1, I1, rx, a, dx, fs, ex, ea, l, q⟩ => ?_) ht
  subst ex
  obtain rfl : u = Value.ref a := rx
  refine getmeth_ok I1 ea c hm l ?_
  refine PySem.W.callWith_KW0 (first := [.ref a]) (h₀ := X.base) I.ok.mod.kin hm.kp hall ?_ hpl
  refine thn (hkw.run pos pins s1 σ H1 _ I1 q) fun ws s3 ⟨zs, H3, I3, rz, l1, l2, q3⟩ => ⟨I3.kIn, ?_⟩
  rw [hks]
  exact run_fnN (us := .ref a :: []) (vs := .ref a :: []) F hr hb pass0 I3 (.cons rfl .nil) rz l1 l2 q3
/-- C(..) -/
theorem pe_iO (O : OkI X.prog X.w X.K X.mg X.base C k x ps dvs sp) (hr : Room (k + 1) X.A) (hg : Gl X x) (ha : PA X (e :: es) t) (hdb : (x == ("__debug__" : Str)) = false := by decide) (he : starEach (e :: es) X.env = (false, eval e X.env) :: starEach es X.env := by rfl)
    (hpl : (backTo pos (starEach es X.env)).any (·.1) = false := by rfl) : PE X (.Call (.Name x p) (e :: es) [] pos) (tMake C sp dvs E0 t) := by
  obtain ⟨f, fd, ds, h1, h0, h2, h3, h4⟩ := O
  exact pe_make h1 h4 hr hg h0 h3 h2 pass0 ha hdb he hpl
theorem pe_iO0 (O : OkI X.prog X.w X.K X.mg X.base C k x ps dvs sp) (hr : Room (k + 1) X.A) (hg : Gl X x) (hdb : (x == ("__debug__" : Str)) = false := by decide) : PE X (.Call (.Name x p) [] [] pos) (tMake C sp dvs E0 tNil) := by
  obtain ⟨f, fd, ds, h1, h0, h2, h3, h4⟩ := O
  exact pe_make0 h1 h4 hr hg h0 h3 h2 pass0 hdb
theorem pe_iON0 (O : OkIN X.prog X.w X.K X.mg X.base C k x ps 1 ks gV sp) (hr : Room (k + 1) X.A) (hg : Gl X x) (hkw : PK X kws tk)
    (hall : (backToKw pos (keywordEach kws X.env)).all (·.1.isSome) = true := by rfl) (hks : (backToKw pos (keywordEach kws X.env)).filterMap (·.1) = ks := by rfl) (hdb : (x == ("__debug__" : Str)) = false := by decide)
    (hpl : ((backTo pos (starEach [] X.env)).any (·.1) || (backToKw pos (keywordEach kws X.env)).any (·.1.isNone)) = false := by rfl) :
    PE X (.Call (.Name x p) [] kws pos) (tMakeK C 0 ks.length sp gV E0 tNil tk) := by
  obtain ⟨f, fd, g, h1, h0, h3, h4⟩ := O
  exact pe_makeK0 h1 h4 hr hg h0 h3 pass0 hkw hall hks hdb hpl
end
/-! ### fields of a class that is known -/
def tFldC (C : Addr) (ta : TE) (f : Str) : TE := fun σ H Q => ta σ H fun x H1 => ∃ a dx fs v, x = .ref a ∧ H1 a = some (.ins C dx fs) ∧ fs.lookup f = some v ∧ Q v H1
def sFldC (C : Addr) (ta tv : TE) (f : Str) : TS := fun D σ H => tv σ H fun y H1 => ta σ H1 fun x H2 => ∃ a dx fs, x = .ref a ∧ H2 a = some (.ins C dx fs) ∧ fs.length < 1000 ∧ D.nx σ (upd H2 a (.ins C dx (putF f y fs)))
def sFldAugC (C : Addr) (ta tv : TE) (rd : V → V → Hp → VK → Prop) (f : Str) : TS := fun D σ H => ta σ H fun x H1 => ∃ a dx fs v, x = .ref a ∧ H1 a = some (.ins C dx fs) ∧ fs.lookup f = some v ∧
  tv σ H1 fun y H2 => rd v y H2 fun z H3 => ∃ dx' fs', H3 a = some (.ins C dx' fs') ∧ fs'.length < 1000 ∧ D.nx σ (upd H3 a (.ins C dx' (putF f z fs')))
section
variable {X : Cx} {C : Addr} {o e value : Expr} {f : Str} {pos pos' tpos : Pos} {ta tv : TE}
theorem pe_fldC (c : Cls X.K C) (n : NoAttr X.K C f) (he : PE X e ta) (hb : attributeBase e f X.env (eval e X.env) = eval e X.env := by rfl) : PE X (.Attribute e f pos) (tFldC C ta f) := by
  refine ⟨fun pins s σ H Q I h => ?_⟩
  refine attr_of hb (thn (he.run pins s σ H _ I h) fun u s1 ⟨x, H1, I1, rx, a, dx, fs, v, ex, ea, l, q⟩ => ?_)
  subst ex
  obtain rfl : u = Value.ref a := rx
  exact getattr_ok I1 ea c n l fun u' s2 I2 ru => ⟨v, H1, I2, ru, q⟩
theorem ps_fldC (c : Cls X.K C) (n : NoAttr X.K C f) (ha : PE X o ta) (hv : PE X value tv) (hs : swapsWith value (some (.Attribute o f pos')) pos.line X.env = pure false := by rfl) : PS X (.Assign [.Attribute o f pos'] value pos) (sFldC C ta tv f) := by
  refine ⟨fun pins s σ H D I h => ?_⟩
  refine plainObj_wpAny_Assign_Attribute (thn (hv.run pins s σ H _ I h) fun u s1 ⟨y, H1, I1, ry, q⟩ => thn (ha.run pins s1 σ H1 _ I1 q) fun ov s2 ⟨x, H2, I2, rx, a, dx, fs, ex, ea, l, q2⟩ => ?_) hs
  subst ex
  obtain rfl : ov = Value.ref a := rx
  exact setattr_ok I2 ea c n l ry fun s3 I3 => ⟨σ, _, I3, q2⟩
theorem ps_fldaugC {op : Operator} {rd : V → V → Hp → VK → Prop} (c : Cls X.K C) (n : NoAttr X.K C f) (ha : PE X o ta) (hv : PE X value tv) (hop : InOp X op rd) : PS X (.AugAssign (.Attribute o f tpos) op value pos) (sFldAugC C ta tv rd f) := by
  refine ⟨fun pins s σ H D I h => ?_⟩
  refine wpAny_AugAssign_AttributeAny (thn (ha.run pins s σ H _ I h) fun ov s1 ⟨x, H1, I1, rx, a, dx, fs, v, ex, ea, l, q⟩ => ?_)
  subst ex
  obtain rfl : ov = Value.ref a := rx
  refine getattr_ok I1 ea c n l fun u s2 I2 ru => thn (hv.run pins s2 σ H1 _ I2 q) fun w3 s3 ⟨y, H2, I3, ry, q3⟩ => thn (hop pins s3 σ H2 v y u w3 _ I3 ru ry q3) fun w4 s4 ⟨z, H3, I4, rz, dx', fs', ea', l', q4⟩ => ?_
  exact setattr_ok I4 ea' c n l' rz fun s5 I5 => ⟨σ, _, I5, q4⟩
end
/-! ### the walk over these -/
section
variable {K : PySem.W.Frag} {σ : L2.St} {e : En} {B B' H : Hp} {L : Led} {Q : VK} {E : XK} {ta tv : TE} {t tk : TA} {v x y : V} {vs zs : List V} {a dx C : Addr} {f m : Str} {fs : List (Str × V)} {nx bk ct : L2.St → Hp → Prop} {rt : VK} {sp : Sp} {dvs : List V} {gV : List V → List V → List V} {φ : Ph} {n q : Nat}
def FldK (C : Addr) (f : Str) (Q : VK) : VK := fun x H1 => ∃ a dx fs v, x = .ref a ∧ H1 a = some (.ins C dx fs) ∧ fs.lookup f = some v ∧ Q v H1
theorem y_fld (h : ta σ H (FldK C f Q)) : tFldC C ta f σ H Q := h
theorem y_fldK (h : H a = some (.ins C dx fs)) (hl : fs.lookup f = some v) (q : Q v H) : FldK C f Q (.ref a) H := ⟨a, dx, fs, v, rfl, h, hl, q⟩
def SFldK (C : Addr) (f : Str) (y : V) (N : Hp → Prop) : VK := fun x H2 => ∃ a dx fs, x = .ref a ∧ H2 a = some (.ins C dx fs) ∧ fs.length < 1000 ∧ N (upd H2 a (.ins C dx (putF f y fs)))
theorem y_sfld (h : tv σ H fun y H1 => ta σ H1 (SFldK C f y (nx σ))) : sFldC C ta tv f ⟨nx, rt, bk, ct⟩ σ H := h
theorem y_sfldK {N : Hp → Prop} {fs' : List (Str × V)} (i : Nat) (S : Sy e B H L) (h : L[i]? = some (a, .ins C dx fs)) (hl : fs.length < 1000) (hp : putF f y fs = fs') (k : ∀ H', Sy e B H' (L.set i (a, .ins C dx fs')) → N H') : SFldK C f y N (.ref a) H := ⟨a, dx, fs, rfl, S.at i h, hl, by rw [hp]; exact k _ (S.wr i h _)⟩
def AFldK (C : Addr) (f : Str) (tv : TE) (rd : V → V → Hp → VK → Prop) (σ : L2.St) (N : Hp → Prop) : VK := fun x H1 => ∃ a dx fs v, x = .ref a ∧ H1 a = some (.ins C dx fs) ∧ fs.lookup f = some v ∧
  tv σ H1 fun y H2 => rd v y H2 fun z H3 => ∃ dx' fs', H3 a = some (.ins C dx' fs') ∧ fs'.length < 1000 ∧ N (upd H3 a (.ins C dx' (putF f z fs')))
theorem y_afld {rd : V → V → Hp → VK → Prop} (h : ta σ H (AFldK C f tv rd σ (nx σ))) : sFldAugC C ta tv rd f ⟨nx, rt, bk, ct⟩ σ H := h
/-- o.f += a number that is written -/
theorem y_afldI {N : Hp → Prop} {fs' : List (Str × V)} {i j : Int} (k : Nat) (S : Sy e B H L) (h : L[k]? = some (a, .ins C dx fs)) (hv : fs.lookup f = some (.int i)) (hl : fs.length < 1000) (hp : putF f (.int (i + j)) fs = fs') (q : ∀ H', Sy e B H' (L.set k (a, .ins C dx fs')) → N H') : AFldK C f (tC (.int j)) rAdd σ N (.ref a) H :=
  ⟨a, dx, fs, .int i, rfl, S.at k h, hv, i, j, rfl, rfl, dx, fs, S.at k h, hl, by rw [hp]; exact q _ (S.wr k h _)⟩
def MthK (C : Addr) (m : Str) (t : TA) (σ : L2.St) (sp : Sp) (dvs : List V) (E : XK) (Q : VK) : VK := fun x H1 => ∃ a dx fs, x = .ref a ∧ H1 a = some (.ins C dx fs) ∧ fs.lookup m = none ∧ t σ H1 fun vs H2 => sp (x :: (vs ++ dvs)) H2 Q E
theorem y_meth (h : ta σ H (MthK C m t σ sp dvs E Q)) : tMeth C m sp dvs E ta t σ H Q := h
theorem y_mthK (h : H a = some (.ins C dx fs)) (hl : fs.lookup m = none) (q : t σ H fun vs H2 => sp (.ref a :: (vs ++ dvs)) H2 Q E) : MthK C m t σ sp dvs E Q (.ref a) H := ⟨a, dx, fs, rfl, h, hl, q⟩
def MthNK (C : Addr) (m : Str) (n q : Nat) (t tk : TA) (σ : L2.St) (sp : Sp) (gV : List V → List V → List V) (E : XK) (Q : VK) : VK := fun x H1 => ∃ a dx fs, x = .ref a ∧ H1 a = some (.ins C dx fs) ∧ fs.lookup m = none ∧
  t σ H1 fun vs H2 => tk σ H2 fun zs H3 => (x :: vs).length = n ∧ zs.length = q ∧ sp (gV (x :: vs) zs) H3 Q E
theorem y_methN (h : ta σ H (MthNK C m n q t tk σ sp gV E Q)) : tMethN C m n q sp gV E ta t tk σ H Q := h
/-- the values of a call with names -/
theorem y_mthNK (h : H a = some (.ins C dx fs)) (hl : fs.lookup m = none) (k : t σ H fun vs H2 => tk σ H2 fun zs H3 => CallNK n q sp gV E Q (.ref a :: vs) zs H3) : MthNK C m n q t tk σ sp gV E Q (.ref a) H := ⟨a, dx, fs, rfl, h, hl, k⟩
/-- a new instance -/
def MakK (C : Addr) (sp : Sp) (dvs : List V) (E : XK) (Q : VK) : List V → Hp → Prop := fun vs H1 => ∀ x dx, H1 x = none → H1 dx = none → dx ≠ x → sp (.ref x :: (vs ++ dvs)) (upd (upd H1 dx (.own x)) x (.ins C dx [])) (fun v H2 => v = .non ∧ Q (.ref x) H2) E
theorem y_make (h : t σ H (MakK C sp dvs E Q)) : tMake C sp dvs E t σ H Q := h
theorem Sy.newObj {x : Addr} (S : Sy e B H L) (hx : H x = Option.none) (hd : H dx = Option.none) (hne : dx ≠ x) : ∃ B', Same B B' ∧ e.H x = Option.none ∧ Sy e B' (upd (upd H dx (.own x)) x (.ins C dx [])) ((x, .ins C dx []) :: L) := by
  obtain ⟨b1, S1⟩ := S.newI (o := .own x) hd
  obtain ⟨h2, S2⟩ := S1.newM (p := x) (o := .ins C dx []) (by rw [upd_ne (fun z => hne z.symm)]; exact hx)
  exact ⟨_, b1, h2, S2⟩
theorem y_makK (S : Sy e B H L) (h : ∀ x dx B' H', Same B B' → e.H x = none → Sy e B' H' ((x, .ins C dx []) :: L) → φ B' (.ref x :: (vs ++ dvs)) [(x, .ins C dx [])] fun B2 v L2 => ∀ H2, Sy ⟨[x], [], B', H'⟩ B2 H2 L2 → v = .non ∧ Q (.ref x) H2) : MakK C (spY φ) dvs E Q vs H := by
  intro x dx hx hd hne
  obtain ⟨B', b, he, S'⟩ := S.newObj (C := C) hx hd hne
  exact ⟨B', [(x, .ins C dx [])], S'.hand1, h x dx B' _ b he S'⟩
def MakNK (C : Addr) (sp : Sp) (gV : List V → List V → List V) (E : XK) (Q : VK) (vs zs : List V) : Hp → Prop := fun H1 => ∀ x dx, H1 x = none → H1 dx = none → dx ≠ x → sp (gV (.ref x :: vs) zs) (upd (upd H1 dx (.own x)) x (.ins C dx [])) (fun v H2 => v = .non ∧ Q (.ref x) H2) E
theorem y_makeN (h : t σ H fun vs H1 => tk σ H1 fun zs H2 => vs.length = n ∧ zs.length = q ∧ MakNK C sp gV E Q vs zs H2) : tMakeK C n q sp gV E t tk σ H Q := h
theorem y_makNK (S : Sy e B H L) (h : ∀ x dx B' H', Same B B' → e.H x = none → Sy e B' H' ((x, .ins C dx []) :: L) → φ B' (gV (.ref x :: vs) zs) [(x, .ins C dx [])] fun B2 v L2 => ∀ H2, Sy ⟨[x], [], B', H'⟩ B2 H2 L2 → v = .non ∧ Q (.ref x) H2) : MakNK C (spY φ) gV E Q vs zs H := by
  intro x dx hx hd hne
  obtain ⟨B', b, he, S'⟩ := S.newObj (C := C) hx hd hne
  exact ⟨B', [(x, .ins C dx [])], S'.hand1, h x dx B' _ b he S'⟩
/-- a call, handed the first part of the ledger -/
theorem y_spG {R : Led} (S : Sy e B H (L ++ R)) (h : φ B vs L fun B' v L' => ∀ H', Sy ⟨L.map (·.1), [], B, H⟩ B' H' L' → Q v H') : spY φ vs H Q E := ⟨B, L, S.hand, h⟩
/-- the ledger in another order -/
theorem perm_ix {α : Type} : ∀ (L : List α), ((List.range L.length).filterMap fun i => L[i]?) = L := by
  intro L
  have := range_bind (fun x : α => some x) L
  simpa using this
theorem Sy.ix (S : Sy e B H L) (is : List Nat) {n : Nat} (hn : L.length = n) (h : is.Perm (List.range n)) : Sy e B H (is.filterMap fun i => L[i]?) := by
  subst hn
  refine S.perm ?_
  have h1 := (h.symm.filterMap fun i => L[i]?)
  rwa [perm_ix] at h1
end
/-! ### a def's body, its name told -/
section
variable {P : Program} {w : World} {K : PySem.W.Frag} {mg : Str → Option Value} {base : Heap} {x qual : Str} {st : Stmt} {kws : List (Str × V)} {N ps : List Str} {k : Nat} {φ : Ph} {f : Addr} {dvs : List V}
theorem fnM {fd : FuncData} (F : FunD K x qual (defArgs st) (defBody st) (defScope st) dvs kws f fd) (S : FnScope N ps (defScope st)) (len : ∀ B vs L k, φ B vs L k → vs.length = ps.length)
    (body : ∀ (cdv : Value) (A : Around) (outer : List Env) (s : Shared) (H : Hp) (vs : List V) (Q : VK) (E : XK) (B : Hp) (L : Led) (e : En), e.Z = [] → e.H = H → Room k (A.deeper (envOfC qual (defScope st) s.heap.objs.size f cdv)) → Sy e B H L →
      (φ B vs L fun B' v L' => ∀ H', Sy e B' H' L' → Q v H') →
      ∃ t, PSs (cxOf CX0 P w K mg base N qual (defScope st) f cdv A outer s H E).nox (defBody st) t ∧ t ⟨fun _ H' => Q .non H', Q, fun _ _ => False, fun _ _ => False⟩ (start N vs) H) : FnOk P w K mg base CX0 (k + 1) f fd ps (spY φ) := by
  refine F.ok S (fun vs H Q E h => ?_) (fun cdv A outer s H vs Q E hr h => ?_)
  · obtain ⟨B, L, _, h⟩ := h
    exact len _ _ _ _ h
  · obtain ⟨B, L, hh, h⟩ := h
    obtain ⟨t, h1, h2⟩ := body cdv A outer s H vs Q E B L _ rfl rfl hr hh.start h
    exact ⟨t, PSs.nox h1, h2⟩
variable {C : Addr} {m : Str} {sp : Sp}
/-- every parameter by place, no defaults -/
theorem OkM.of (F : ∃ fd, FunD K x qual (defArgs st) (defBody st) (defScope st) [] kws f fd) (g : Meth K C m f)
    (hb : ∀ (kV doc pm : Value) (an : Option Addr) (cdv ct : Value) (us : List Value), us.length = ps.length → bindArgs (PySem.W.fnOf x qual (defArgs st) (defBody st) (defScope st) .none kV doc pm an cdv ct) ⟨us, []⟩ = pure (ps.zip us))
    (h : ∀ fd, FunD K x qual (defArgs st) (defBody st) (defScope st) [] kws f fd → FnOk P w K mg base CX0 k f fd ps sp) : OkM P w K mg base C k m ps [] sp := by
  obtain ⟨fd, F⟩ := F
  exact ⟨f, fd, [], g, .nil, F.bindsN hb, h fd F⟩
/-- with defaults: n are written, the defaults from the j-th on fill up -/
theorem OkM.ofD (n j : Nat) (F : ∃ fd, FunD K x qual (defArgs st) (defBody st) (defScope st) dvs kws f fd) (g : Meth K C m f) (hd : dvs ≠ []) (hn : n + (dvs.length - j) = ps.length)
    (hb : ∀ (T : Addr) (kV doc pm : Value) (an : Option Addr) (cdv ct : Value) (us its : List Value), us.length = n → its.length = dvs.length →
      ∃ kk, bindArgs (PySem.W.fnOf x qual (defArgs st) (defBody st) (defScope st) (.ref T) kV doc pm an cdv ct) ⟨us, []⟩ = seqItems? (.ref T) >>= kk ∧ kk (some its.toArray) = pure (ps.zip (us ++ its.drop j)))
    (h : ∀ fd, FunD K x qual (defArgs st) (defBody st) (defScope st) dvs kws f fd → FnOk P w K mg base CX0 k f fd ps sp) : OkM P w K mg base C k m ps (dvs.drop j) sp := by
  obtain ⟨fd, F⟩ := F
  obtain ⟨ds, h1, h2⟩ := F.binds1 n j hd hn hb
  exact ⟨f, fd, ds, g, h1, h2, h fd F⟩
/-- keyword-only ones left out -/
theorem OkM.ofK (n : Nat) (F : ∃ fd, FunD K x qual (defArgs st) (defBody st) (defScope st) [] kws f fd) (g : Meth K C m f) (hk : kws ≠ []) (hn : n + kws.length = ps.length)
    (hb : ∀ (D : Addr) (doc pm : Value) (an : Option Addr) (cdv ct : Value) (us ks : List Value), us.length = n → ks.length = kws.length →
      KwChain D ((kws.map (·.1)).zip ks) (bindArgs (PySem.W.fnOf x qual (defArgs st) (defBody st) (defScope st) .none (.ref D) doc pm an cdv ct) ⟨us, []⟩) (ps.zip (us ++ ks)))
    (h : ∀ fd, FunD K x qual (defArgs st) (defBody st) (defScope st) [] kws f fd → FnOk P w K mg base CX0 k f fd ps sp) : OkM P w K mg base C k m ps (kws.map (·.2)) sp := by
  obtain ⟨fd, F⟩ := F
  obtain ⟨ds, h1, h2⟩ := F.binds0 n hk hn hb
  exact ⟨f, fd, ds, g, h1, h2, h fd F⟩
/-- n by place, ks by name, no defaults needed -/
theorem OkMN.of {n : Nat} {ks : List Str} (gA : {α : Type} → List α → List α → List α) (F : ∃ fd, FunD K x qual (defArgs st) (defBody st) (defScope st) [] kws f fd) (g : Meth K C m f)
    (rel : ∀ {vs zs : List V} {us ws : List Value}, Vals vs us → Vals zs ws → Vals (gA vs zs) (gA us ws))
    (hb : ∀ (kV doc pm : Value) (an : Option Addr) (cdv ct : Value) (us ws : List Value), us.length = n → ws.length = ks.length → bindArgs (PySem.W.fnOf x qual (defArgs st) (defBody st) (defScope st) .none kV doc pm an cdv ct) ⟨us, ks.zip ws⟩ = pure (ps.zip (gA us ws)))
    (h : ∀ fd, FunD K x qual (defArgs st) (defBody st) (defScope st) [] kws f fd → FnOk P w K mg base CX0 k f fd ps sp) : OkMN P w K mg base C k m ps n ks (fun vs zs => gA vs zs) sp := by
  obtain ⟨fd, F⟩ := F
  refine ⟨f, fd, fun us ws => gA us ws, g, ⟨fun s us ws _ h1 h2 => ?_, rel⟩, h fd F⟩
  obtain ⟨oc, od, dV, kV, doc, pm, an, cdv, ct, osl, rfl, lk, hcd, hD, hK⟩ := F.ex
  rcases hD with ⟨_, rfl⟩ | ⟨e, _⟩
  · exact .of_eq (hb kV doc pm an cdv ct us ws h1 h2)
  · exact absurd rfl e
/-- .. with defaults -/
theorem OkMN.ofD {n : Nat} {ks : List Str} (gA : {α : Type} → List α → List α → List α → List α) (F : ∃ fd, FunD K x qual (defArgs st) (defBody st) (defScope st) dvs kws f fd) (g : Meth K C m f) (hd : dvs ≠ [])
    (rel : ∀ {vs zs ds : List V} {us ws is : List Value}, Vals vs us → Vals zs ws → Vals ds is → Vals (gA vs zs ds) (gA us ws is))
    (hb : ∀ (T : Addr) (kV doc pm : Value) (an : Option Addr) (cdv ct : Value) (us ws its : List Value), us.length = n → ws.length = ks.length → its.length = dvs.length →
      ∃ kk, bindArgs (PySem.W.fnOf x qual (defArgs st) (defBody st) (defScope st) (.ref T) kV doc pm an cdv ct) ⟨us, ks.zip ws⟩ = seqItems? (.ref T) >>= kk ∧ kk (some its.toArray) = pure (ps.zip (gA us ws its)))
    (h : ∀ fd, FunD K x qual (defArgs st) (defBody st) (defScope st) dvs kws f fd → FnOk P w K mg base CX0 k f fd ps sp) : OkMN P w K mg base C k m ps n ks (fun vs zs => gA vs zs dvs) sp := by
  obtain ⟨fd, F⟩ := F
  have hf := h fd F
  obtain ⟨oc, od, dV, kV, doc, pm, an, cdv, ct, osl, rfl, lk, hcd, hD, hK⟩ := F.ex
  rcases hD with ⟨e, _⟩ | ⟨_, T, o, its, m, rfl, lT, oT, rT⟩
  · exact absurd e hd
  · refine ⟨f, _, fun us ws => gA us ws its, g, ⟨fun s us ws X h1 h2 => ?_, fun r1 r2 => rel r1 r2 rT⟩, hf⟩
    obtain ⟨kk, e1, e2⟩ := hb T kV doc pm an cdv ct us ws its h1 h2 rT.length.symm
    refine BindsTo.of_looks fun M => ?_
    rw [e1]
    exact looks_items X lT oT (.of_pure e2)
/-- the making: from the same facts of __init__ as a method -/
theorem OkM.mk (O : OkM P w K mg base C k "__init__" ps dvs sp) (M : Mk K C f) (g : mg x = some (.ref C)) : OkI P w K mg base C k x ps dvs sp := by
  obtain ⟨f', fd, ds, h1, h2, h3, h4⟩ := O
  have e : f' = f := by
    have := h1.at_.symm.trans M.init
    cases this
    rfl
  subst e
  exact ⟨f', fd, ds, M, g, h2, h3, h4⟩
theorem OkMN.mk {n : Nat} {ks : List Str} {gV : List V → List V → List V} (O : OkMN P w K mg base C k "__init__" ps n ks gV sp) (M : Mk K C f) (g : mg x = some (.ref C)) : OkIN P w K mg base C k x ps n ks gV sp := by
  obtain ⟨f', fd, gg, h1, h2, h3⟩ := O
  have e : f' = f := by
    have := h1.at_.symm.trans M.init
    cases this
    rfl
  subst e
  exact ⟨f', fd, gg, M, g, h2, h3⟩
end
/-! ### len(o) by an own __len__ -/
section
variable {X : Cx} {n : Nat} {C : Addr} {ps : List Str} {sp : Sp}
def rLenO (C : Addr) (sp : Sp) : List V → Hp → VK → Prop := fun xs H Q => ∃ a dx fs, xs = [.ref a] ∧ H a = some (.ins C dx fs) ∧ sp [.ref a] H (fun v H' => ∃ k : Nat, v = .int k ∧ k < 2 ^ 62 ∧ Q (.int k) H') E0
theorem call_lenO (O : OkM X.prog X.w X.K X.mg X.base C n "__len__" ps [] sp) (hr : Room (n + 1) X.A) : CallR X (.builtin "len") (rLenO C sp) := by
  obtain ⟨f, fd, ds, hm, hd, hb, F⟩ := O
  cases hd
  intro pins s σ H xs us Q I r h
  obtain ⟨a, dx, fs, rfl, ha, hsp⟩ := h
  obtain ⟨u, rfl, ru⟩ := vals1 r
  obtain rfl : u = Value.ref a := ru
  obtain ⟨mA, J, _⟩ := ins_get I.hok ha
  obtain ⟨od, J, _⟩ := J.look
  obtain ⟨m, hF⟩ := I.fr
  have e0 : Env0 X.prog X.w X.K X.mg X.base X.A.in1 X.stack s H := I.env0.in1
  have hl := F.len _ _ _ _ hsp
  have r2 : Vals [V.ref a] [Value.ref a] := .cons rfl .nil
  refine PySem.W.len_K hF I.ok.mod.kin J hm.at_ hm.fn (wpAny_call (codeAny_mono (F.run X.A.in1 X.stack s H ⟨[.ref a], []⟩ [.ref a] [.ref a] _ E0 hr.in1 e0 (by
    have := hb s [.ref a] I.kIn (by simpa using hl)
    simpa using this) r2 hsp) fun r s' hq => ?_))
  cases r with
  | error e => exact pass0 pins σ H s e s' I hq
  | ok fl =>
    cases fl with
    | ret w =>
      obtain ⟨z, H', I', rz, k, rfl, hk, q⟩ := I.after hq
      obtain ⟨t, rfl⟩ := rz
      exact ⟨⟨by omega, by omega⟩, .int k, H', I'.tok _, ⟨_, rfl⟩, q⟩
    | next => exact False.elim hq
    | brk => exact False.elim hq
    | cont => exact False.elim hq
end
/-! ### dicts with written text keys -/
section
variable {K : PySem.W.Frag} {σ : L2.St} {e : En} {B B' H : Hp} {L : Led} {Q : VK} {trs : List (TE × TE)} {tk tv : TE} {v x y : V} {a d : Addr} {z : Str} {kvs kvs' : List (Key × V)}
theorem y_ixDS (h : H a = some (.dK kvs)) (hv : valV kvs (.inr z) = some v) (q : Q v H) : rIxU K (.ref a) (.str z) H Q := y_ixD (k := .inr z) (.inl h) rfl hv q
theorem y_setDS {N : Hp → Prop} (n : Nat) (S : Sy e B H L) (h : L[n]? = some (d, .dK kvs)) (hl : kvs.length < 100000) (hp : putK kvs (.inr z) v = kvs') (k : ∀ H', Sy e B H' (L.set n (d, .dK kvs')) → N H') : rSetU (.ref d) (.str z) v H N := y_setD n S h (kk := .inr z) rfl (lenLt hl) fun H' S' => k H' (by rw [← hp]; exact S')
def DispK (p : Addr) (Q : VK) : List (V × V) → Hp → Prop := fun ps H2 => H2 p = some (.dK []) ∧ ∃ kvs : List (Key × V), ps = kvs.map (fun kv => (kV kv.1, kv.2)) ∧ kvs.length ≤ 15 ∧ Q (.ref p) (upd H2 p (.dK (mergeK [] kvs)))
theorem y_disp (S : Sy e B H L) (h : ∀ p H1, e.H p = none → Sy e B H1 ((p, .dK []) :: L) → tPairs trs σ H1 (DispK p Q)) : tDisp trs σ H Q := fun p hp => by
  obtain ⟨h1, S1⟩ := S.newM (o := .dK []) hp
  exact h p _ h1 S1
theorem y_pcons {r : List (TE × TE)} {QP : List (V × V) → Hp → Prop} (h : tk σ H fun x H1 => tv σ H1 fun y H2 => tPairs r σ H2 fun ps H3 => QP ((x, y) :: ps) H3) : tPairs ((tk, tv) :: r) σ H QP := h
theorem y_pnil {QP : List (V × V) → Hp → Prop} (h : QP [] H) : tPairs [] σ H QP := h
theorem y_dispK {p : Addr} {ps : List (V × V)} (kvs : List (Key × V)) (n : Nat) (S : Sy e B H L) (h : L[n]? = some (p, .dK [])) (hk : ps = kvs.map fun kv => (kV kv.1, kv.2)) (hl : kvs.length ≤ 15) (hm : mergeK [] kvs = kvs') (k : ∀ H', Sy e B H' (L.set n (p, .dK kvs')) → Q (.ref p) H') : DispK p Q ps H := ⟨S.at n h, kvs, hk, hl, by rw [hm]; exact k _ (S.wr n h _)⟩
end
/-! ### tuples walked -/
section
variable {K : PySem.W.Frag} {σ : L2.St} {e : En} {B B' H : Hp} {L : Led} {te : TE} {xs : List V} {a : Addr} {R : It → Hp → Prop}
def TupK (K : PySem.W.Frag) (R : It → Hp → Prop) : VK := fun x H1 => ∃ a, x = .ref a ∧ (∃ xs, SqT K H1 a xs) ∧ R (Itt K a) H1
theorem y_itup (h : te σ H (TupK K R)) : iTup K te σ H R := h
theorem y_tupK (h : SqT K H a xs) (q : R (Itt K a) H) : TupK K R (.ref a) H := ⟨a, rfl, ⟨xs, h⟩, q⟩
end
end Y
/-! sorted(..) of data by their types. -/
namespace Y
open PySem PySem.Spec PyProof.Rows L2
/-- x goes no later than y -/
def leD (d e : PyData) : Bool := !PySem.W.dataLt e d
section
variable {X : Cx} {K : PySem.W.Frag}
/-- sorted(xs): zs what the items stand for -/
def rSortC (K : PySem.W.Frag) : List V → Hp → VK → Prop := fun vs H Q => ∃ (α : Type) (enc : α → PyData) (a : Addr) (xs : List V) (zs : List α), vs = [.ref a] ∧ SqL K H a xs ∧ DpAll K H xs (zs.map enc) ∧ PySem.W.AllAlike (zs.map enc) ∧ PySem.W.Sortable (zs.map enc) ∧ (∀ z ∈ zs, (enc z).depth ≤ 50) ∧
  NewK (.lst (((xs.zip zs).mergeSort fun p q => leD (enc p.2) (enc q.2)).map (·.1))) Q H
theorem each_zip {H : Hp} {α : Type} {enc : α → PyData} : ∀ {xs : List V} {its : List Value} {zs : List α}, Vals xs its → DpAll K H xs (zs.map enc) → PySem.W.EachIs (fun (v : Value) (b : V × α) => RelV b.1 v ∧ Dp K H b.1 (enc b.2)) its (xs.zip zs)
  | _, _, [], .nil, _ => .nil
  | _, _, [], .cons _ _, h => by cases h
  | _, _, _ :: _, .nil, h => by cases h
  | _, _, z :: zs, .cons r t, h => by
    cases h with
    | cons h1 h2 => exact .cons ⟨r, h1⟩ (each_zip t h2)
theorem vals_each {H : Hp} {α : Type} {enc : α → PyData} : ∀ {out : List Value} {bs : List (V × α)}, PySem.W.EachIs (fun (v : Value) (b : V × α) => RelV b.1 v ∧ Dp K H b.1 (enc b.2)) out bs → Vals (bs.map (·.1)) out
  | _, _, .nil => .nil
  | _, _, .cons r t => .cons r.1 (vals_each t)
theorem zip_snd {α : Type} {enc : α → PyData} {H : Hp} : ∀ {xs : List V} {zs : List α}, DpAll K H xs (zs.map enc) → (xs.zip zs).map (fun b => enc b.2) = zs.map enc ∧ xs.length = zs.length
  | _, [], h => by cases h; exact ⟨rfl, rfl⟩
  | _, z :: zs, h => by
    cases h with
    | cons h1 h2 =>
      obtain ⟨e1, e2⟩ := zip_snd h2
      exact ⟨by rw [List.zip_cons_cons, List.map_cons, e1]; rfl, by rw [List.length_cons, List.length_cons, e2]⟩
theorem cr_sortC (hK : X.K = K) (hu : X.A.units + 64 < cLine) : CallR X (.builtin "sorted") (rSortC K) := by
  subst hK
  intro pins s σ H vs us Q I r h
  obtain ⟨α, enc, a, xs, zs, rfl, hs, hd, hal, hk, hdp, q⟩ := h
  obtain ⟨its, rv, hl, hz⟩ := I.list hs
  obtain ⟨u, rfl, ru⟩ := vals1 r
  obtain rfl : u = Value.ref a := ru
  obtain ⟨e1, e2⟩ := zip_snd hd
  have ez := each_zip rv hd
  have hzl : (xs.zip zs).length = zs.length := by rw [List.length_zip, e2, Nat.min_self]
  refine PySem.W.sorted_data (enc := fun b : V × α => enc b.2) hl.isList ez (ez.mono fun v b hb => Dp.reads I _ b.1 v hb.2 hb.1) (by rw [e1]; exact hal) (by rw [e1]; exact hk) (by rw [hzl, ← e2]; exact hz) (fun b hb => ?_) fun out hlen ho => ?_
  · have hm : b.2 ∈ zs := (List.of_mem_zip (show (b.1, b.2) ∈ xs.zip zs from hb)).2
    have := hdp _ hm
    show X.A.units + 2 + (enc b.2).depth < cLine
    omega
  · obtain ⟨n, hn⟩ := sortedAll_at s.heap its out.toArray
    have hv := vals_each ho
    have hle : (PySem.W.dataLe false fun b : V × α => enc b.2) = fun p q => leD (enc p.2) (enc q.2) := rfl
    rw [hle] at hv
    refine ⟨.ref _, upd H (s.heap.objs.size + 1) (.lst _), I.laid (t' := s.toks) (fun _ _ => sortedAll_old) (Nat.le_succ _) ⟨?_, out, n, hv, hn⟩, rfl, q _ (I.hok.fresh (Nat.le_succ _))⟩
    rw [List.length_map, List.length_mergeSort, hzl, ← e2]
    exact hz
end
/-! ### seen from the walk -/
section
variable {K : PySem.W.Frag} {e : En} {B H : Hp} {L : Led} {Q : VK} {α : Type} {a : Addr} {xs : List V} {zs : List α}
theorem pr_zip {F : V → α → Prop} : ∀ {xs : List V} {zs : List α}, Paired F xs zs → ∀ b ∈ xs.zip zs, F b.1 b.2
  | _, _, .nil, b, h => by cases h
  | _, _, .cons r t, b, h => by
    rcases List.mem_cons.mp h with rfl | h
    · exact r
    · exact pr_zip t b h
theorem pr_maps {F : V → α → Prop} : ∀ {bs : List (V × α)}, (∀ b ∈ bs, F b.1 b.2) → Paired F (bs.map (·.1)) (bs.map (·.2))
  | [], _ => .nil
  | b :: bs, h => .cons (h b List.mem_cons_self) (pr_maps fun x hx => h x (List.mem_cons_of_mem _ hx))
theorem pr_sort {F : V → α → Prop} {le : α → α → Bool} (h : Paired F xs zs) : Paired F (((xs.zip zs).mergeSort fun p q => le p.2 q.2).map (·.1)) (zs.mergeSort le) := by
  have h1 := pr_maps (F := F) (bs := (xs.zip zs).mergeSort fun p q => le p.2 q.2) fun b hb => pr_zip h b ((List.mergeSort_perm _ _).mem_iff.mp hb)
  have e1 : ((xs.zip zs).mergeSort fun p q => le p.2 q.2).map (·.2) = zs.mergeSort le := by
    rw [List.map_mergeSort (s := le) (fun _ _ _ _ => rfl), List.map_snd_zip (Nat.le_of_eq h.length.symm)]
  rw [e1] at h1
  exact h1
/-- sorted(xs) of a type whose values are alike -/
theorem y_sortC (c : Cod α) (S : Sy e B H L) (h : SqL K H a xs) (hp : Paired (At c K B) xs zs) (hal : ∀ z ∈ zs, ∀ w ∈ zs, PySem.W.alike (c.enc z) (c.enc w) = true) (hk : PySem.W.Sortable (zs.map c.enc)) (hd : c.dep ≤ 50)
    (q : ∀ ys, Paired (At c K B) ys (zs.mergeSort fun z w => leD (c.enc z) (c.enc w)) → NewK (.lst ys) Q H) : rSortC K [.ref a] H Q := by
  refine ⟨α, c.enc, a, xs, zs, rfl, h, Sub.ds S.bh (dpAll_of hp), fun d hd d' hd' => ?_, hk, fun z _ => Nat.le_trans (c.dp z) hd, q _ (pr_sort (le := fun z w => leD (c.enc z) (c.enc w)) hp)⟩
  obtain ⟨z, hz, rfl⟩ := List.mem_map.mp hd
  obtain ⟨w, hw, rfl⟩ := List.mem_map.mp hd'
  exact hal z hz w hw
end
/-! ### sorted(..) of what is no list -/
section
variable {X : Cx} {α : Type} {enc : α → PyData} {T : String} {r d : Addr} {n : Nat} {P : Nat → Value → Prop} {OK : Heap → Prop}
theorem sorted_src (src : PySem.W.KdlSrc X.prog X.w T r d n P OK) (hc : X.calm = true) (hu : X.A.units + 64 < cLine) {pins : List (Addr × Obj)} {s : Shared} {σ : L2.St} {H : Hp} {Q : VK} (I : Inv X pins σ H s) (ok : OK s.heap) (hn : n ≤ sizeLine) {Good : List (V × α) → Prop}
    (ha : ∀ acc : Array Value, acc.size = n → (∀ j v, acc[j]? = some v → P j v) → ∃ bs : List (V × α), PySem.W.EachIs (fun (v : Value) (b : V × α) => RelV b.1 v ∧ Dp X.K H b.1 (enc b.2)) acc.toList bs ∧ Good bs)
    (hal : ∀ bs, Good bs → PySem.W.AllAlike (bs.map fun b => enc b.2)) (hk : ∀ bs, Good bs → PySem.W.Sortable (bs.map fun b => enc b.2)) (hdp : ∀ bs, Good bs → ∀ b ∈ bs, (enc b.2).depth ≤ 50)
    (q : ∀ bs, Good bs → NewK (.lst ((bs.mergeSort fun p q => leD (enc p.2) (enc q.2)).map (·.1))) Q H) : wpAny (model X.prog X.w) X.A (call (.builtin "sorted") [.ref r]) (EP X pins σ Q) X.xe s := by
  refine Calls.call_function_entry kind_sorted plain_sorted entry_sorted (args_sorted1 _) ?_
  unfold Builtin.«sorted»
  refine wpAny_bind (m := checkCount "sorted" 1 1 _) (wpAny_pure ?_)
  refine wpAny_bind (PySem.W.kdu_collect (A := X.A.in1) src (I.ok.hd hc) ok hn fun hp tk acc kp hit => ?_)
  obtain ⟨bs, eb, gd⟩ := ha acc hit.1 hit.2
  have hal1 : acc.toList.length ≤ sizeLine := by rw [Array.length_toList, hit.1]; exact hn
  have I1 : Inv X pins σ H { s with heap := hp, toks := tk } := I.kept kp
  refine wpAny_bind (wpAny_newList ?_ hal1)
  have hoL : (hp.push (seqObj "list" acc.toList.toArray 0)).get? hp.objs.size = some (seqObj "list" acc.toList.toArray 0) := Heap.get?_push_size _ rfl
  show wpAny _ _ _ _ _ { s with heap := hp.push (seqObj "list" acc.toList.toArray 0), toks := tk }
  have up : ∀ (b : Addr) (o : Obj), hp.get? b = some o → (PySem.W.sortingHeap (hp.push (seqObj "list" acc.toList.toArray 0)) hp.objs.size acc.toList).get? b = some o := fun b o e =>
    PySem.W.sortingHeap_old (Nat.ne_of_lt (Heap.lt_size e)) (Heap.get?_push_of_some _ e)
  have er : PySem.W.EachIs (fun (v : Value) (b : V × α) => ∃ as, Reads (PySem.W.sortingHeap (hp.push (seqObj "list" acc.toList.toArray 0)) hp.objs.size acc.toList) v (enc b.2) as) acc.toList bs := eb.mono fun v b hb => by
    obtain ⟨as, h1⟩ := Dp.reads I1 _ b.1 v hb.2 hb.1
    exact ⟨as, PyProof.Rows.Reads.keeps up h1⟩
  refine wpAny_bind (wpAny_holding (wpAny_call_entry slot_list_sort ⟨_, hoL, rfl⟩ entry_list_sort
    (PySem.W.list_sort_vals (s := { s with heap := hp.push (seqObj "list" acc.toList.toArray 0), toks := tk }) hoL
      (PySem.W.SortsAt.data (s := { s with heap := PySem.W.sortingHeap (hp.push (seqObj "list" acc.toList.toArray 0)) hp.objs.size acc.toList, toks := tk }) (PySem.W.each_map (R := fun v d => ∃ as, Reads (PySem.W.sortingHeap (hp.push (seqObj "list" acc.toList.toArray 0)) hp.objs.size acc.toList) v d as) (fun b : V × α => enc b.2) er) (hal bs gd) (hk bs gd) (fun d hd => ?_)) hal1 ⟨_, rfl, ?_⟩) (args_list_sort _)))
  · obtain ⟨b, hb, rfl⟩ := List.mem_map.mp hd
    have := hdp bs gd b hb
    show X.A.units + 1 + 1 + (enc b.2).depth < cLine
    omega
  · have ho := PySem.W.sortVals_data false eb er (hal bs gd)
    have hv := vals_each ho
    obtain ⟨e', he'⟩ := sortedHeap_at (vs := acc.toList) (out := (PySem.W.sortVals (PySem.W.dataKind (PySem.W.sortingHeap (hp.push (seqObj "list" acc.toList.toArray 0)) hp.objs.size acc.toList) (bs.map fun b => enc b.2)) false acc.toList acc.toList).toArray) hoL
    refine wpAny_pure ⟨_, rfl, .ref hp.objs.size, upd H hp.objs.size (.lst ((bs.mergeSort fun p q => leD (enc p.2) (enc q.2)).map (·.1))), I1.laid (t' := tk) (fun b u e => ?_) (Nat.le_refl _) (show ObjOk X.prog X.w _ _ _ (.lst _) from ⟨?_, _, e', hv, he'⟩), rfl, q bs gd _ (I1.hok.fresh (Nat.le_refl _))⟩
    · have hb : b < hp.objs.size := Heap.lt_size e
      rw [sortedHeap_old (Nat.ne_of_lt hb) (by rw [size_push']; exact Nat.lt_succ_of_lt hb)]
      exact Heap.get?_push_of_some _ e
    · rw [List.length_map, List.length_mergeSort, ← eb.length]
      exact hal1
end
/-! ### sorted(d), by its keys -/
def keyD : Key → PyData
  | .inl i => .int i
  | .inr z => .str z
theorem dp_key {K : PySem.W.Frag} {H : Hp} (k : Key) : Dp K H (kV k) (keyD k) := by cases k with | inl i => exact .int i | inr z => exact .str z
theorem keyD_dep (k : Key) : (keyD k).depth ≤ 50 := by cases k <;> simp [keyD, PyData.depth]
section
variable {X : Cx}
def rSortDK : List V → Hp → VK → Prop := fun vs H Q => ∃ (d : Addr) (kvs : List (Key × V)), vs = [.ref d] ∧ Rd H d (.dK kvs) ∧ PySem.W.AllAlike (kvs.map fun p => keyD p.1) ∧ NewK (.lst (((kvs.map (·.1)).mergeSort fun k l => leD (keyD k) (keyD l)).map kV)) Q H
theorem sortable_keys {l : List Key} : PySem.W.Sortable (l.map keyD) := .inr fun d hd => by
  obtain ⟨k, _, rfl⟩ := List.mem_map.mp hd
  cases k with
  | inl i => exact ⟨(fun z => by cases z), (fun _ z => by cases z)⟩
  | inr i => exact ⟨(fun z => by cases z), (fun _ z => by cases z)⟩
theorem cr_sortDK (hc : X.calm = true) (hu : X.A.units + 64 < cLine) : CallR X (.builtin "sorted") rSortDK := by
  intro pins s σ H vs us Q I r h
  obtain ⟨d, kvs, rfl, hd, hal, q⟩ := h
  obtain ⟨u, rfl, ru⟩ := vals1 r
  obtain rfl : u = Value.ref d := ru
  obtain ⟨z, lo, ws, rel, dd⟩ := dk_rd I.hok hd
  obtain ⟨ep, hat⟩ := dd.dictAt
  have hl : kvs.length = ws.length := Paired.length rel
  refine sorted_src (enc := keyD) (Good := fun bs => bs = kvs.map fun p => (kV p.1, p.1)) (PySem.W.kdl_dict (knd := mixKind X.prog X.w) (kvs := ws) (ep := ep) lo) hc hu I hat (by rw [← hl]; exact z) (fun acc h1 h2 => ⟨_, ?_, rfl⟩) (fun bs e => ?_) (fun bs e => ?_) (fun bs e b _ => keyD_dep _) (fun bs e => ?_)
  · have key : ∀ {l : List (Key × V)} {m : List Value}, l.length = m.length → (∀ (j : Nat) (p : Key × V) (v : Value), l[j]? = some p → m[j]? = some v → RelV (kV p.1) v) → PySem.W.EachIs (fun (v : Value) (b : V × Key) => RelV b.1 v ∧ Dp X.K H b.1 (keyD b.2)) m (l.map fun p => (kV p.1, p.1)) := by
      intro l
      induction l with
      | nil => intro m e _; cases m with | nil => exact .nil | cons _ _ => cases e
      | cons p l ih =>
        intro m e f
        cases m with
        | nil => cases e
        | cons v m => exact .cons ⟨f 0 p v rfl rfl, dp_key _⟩ (ih (by simpa using e) fun j a b ha hb => f (j + 1) a b (by simpa using ha) (by simpa using hb))
    refine key (l := kvs) (m := acc.toList) (by have e9 : acc.toList.length = acc.size := Array.length_toList; omega) fun j p v hp hv => ?_
    obtain ⟨k, y, hky, hi⟩ := h2 j v (by rw [← Array.getElem?_toList]; exact hv)
    have e1 : (kvs.map (·.1))[j]? = some k := by
      rw [KV.keys rel, List.getElem?_map, hky] <;> rfl
    rw [List.getElem?_map, hp] at e1
    cases e1
    exact keyIs_rel hi
  · subst e
    rw [List.map_map]
    exact hal
  · subst e
    rw [List.map_map]
    have := sortable_keys (l := kvs.map (·.1))
    rwa [List.map_map] at this
  · subst e
    have e2 : ((kvs.map fun p => (kV p.1, p.1)).mergeSort fun p q => leD (keyD p.2) (keyD q.2)).map (·.1) = ((kvs.map (·.1)).mergeSort fun k l => leD (keyD k) (keyD l)).map kV := by
      have e3 : (kvs.map fun p => (kV p.1, p.1)) = (kvs.map (·.1)).map fun k => (kV k, k) := by rw [List.map_map]; rfl
      rw [e3, ← List.map_mergeSort (r := fun k l => leD (keyD k) (keyD l)) (f := fun k => (kV k, k)) (fun _ _ _ _ => rfl), List.map_map]
      rfl
    rw [e2]
    exact q
/-- sorted(d), its keys pairs of ints -/
def rSortDT : List V → Hp → VK → Prop := fun vs H Q => ∃ (d : Addr) (kvs : List (List Key × V)) (ps : List (Int × Int)), vs = [.ref d] ∧ Rd H d (.dT kvs) ∧ kvs.map (·.1) = ps.map (fun p => [.inl p.1, .inl p.2]) ∧
  ∀ bs : List (V × (Int × Int)), bs.map (·.2) = ps → (∀ b ∈ bs, ∃ t, b.1 = .ref t ∧ H t = some (.tup [.int b.2.1, .int b.2.2])) → NewK (.lst ((bs.mergeSort fun p q => leD (.tuple [.int p.2.1, .int p.2.2]) (.tuple [.int q.2.1, .int q.2.2])).map (·.1))) Q H
theorem alike_pair (a b c d : Int) : PySem.W.alike (.tuple [.int a, .int b]) (.tuple [.int c, .int d]) = true := by simp [PySem.W.alike, PySem.W.alikeAll]
theorem cr_sortDT (hc : X.calm = true) (hu : X.A.units + 64 < cLine) : CallR X (.builtin "sorted") rSortDT := by
  intro pins s σ H vs us Q I r h
  obtain ⟨d, kvs, ps, rfl, hd, hps, q⟩ := h
  obtain ⟨u, rfl, ru⟩ := vals1 r
  obtain rfl : u = Value.ref d := ru
  obtain ⟨z, hs, ks, pr, o, es, ep, ho, hx, hdt, he, hn⟩ := (show ObjOk X.prog X.w H s.heap d (.dT kvs) from hd.ok I.hok)
  have l1 : es.size = ks.length := size_of_entries he
  have l2 : kvs.length = ks.length := Paired.length pr
  have l3 : kvs.length = ps.length := by have := congrArg List.length hps; rwa [List.length_map, List.length_map] at this
  refine sorted_src (enc := fun p : Int × Int => .tuple [.int p.1, .int p.2]) (Good := fun bs => bs.map (·.2) = ps ∧ ∀ b ∈ bs, ∃ t, b.1 = V.ref t ∧ H t = some (.tup [.int b.2.1, .int b.2.2])) (kdl_raw hs hx hdt) hc hu I ho (by omega) (fun acc h1 h2 => ?_) (fun bs g => ?_) (fun bs g => ?_) (fun bs g b _ => by simp [PyData.depth, PyData.depthAll]) (fun bs g => q bs g.1 g.2)
  · have key : ∀ {l : List (List Key × V)} {m : List (List Key × Addr × Value)} {ps : List (Int × Int)} {vs : List Value}, Paired (fun (p : List Key × V) (q : List Key × Addr × Value) => p.1 = q.1 ∧ H q.2.1 = some (.tup (p.1.map kV)) ∧ RelV p.2 q.2.2) l m → l.map (·.1) = ps.map (fun p => [.inl p.1, .inl p.2]) → vs = m.map (fun x => Value.ref x.2.1) →
        ∃ bs : List (V × (Int × Int)), PySem.W.EachIs (fun (v : Value) (b : V × (Int × Int)) => RelV b.1 v ∧ Dp X.K H b.1 (.tuple [.int b.2.1, .int b.2.2])) vs bs ∧ bs.map (·.2) = ps ∧ ∀ b ∈ bs, ∃ t, b.1 = V.ref t ∧ H t = some (.tup [.int b.2.1, .int b.2.2]) := by
      intro l m ps vs hp
      induction hp generalizing ps vs with
      | nil =>
        intro e1 e2
        cases ps with
        | nil => exact ⟨[], by rw [e2]; exact .nil, rfl, fun b hb => by cases hb⟩
        | cons _ _ => cases e1
      | @cons a b l m h1 _ ih =>
        intro e1 e2
        cases ps with
        | nil => cases e1
        | cons p ps =>
          rw [List.map_cons, List.map_cons] at e1
          obtain ⟨ea, er⟩ := List.cons.inj e1
          obtain ⟨bs, g1, g2, g3⟩ := ih er rfl
          have ht : H b.2.1 = some (.tup [.int p.1, .int p.2]) := by
            have := h1.2.1
            rw [ea] at this
            exact this
          refine ⟨(.ref b.2.1, p) :: bs, ?_, by rw [List.map_cons, g2], fun c hc => ?_⟩
          · rw [e2, List.map_cons]
            exact .cons ⟨rfl, .tup (sqT ht) (.cons (.int _) (.cons (.int _) .nil))⟩ g1
          · rcases List.mem_cons.mp hc with rfl | hc
            · exact ⟨_, rfl, ht⟩
            · exact g3 c hc
    refine key pr hps ?_
    apply List.ext_getElem?
    intro j
    rw [List.getElem?_map]
    cases hj : acc.toList[j]? with
    | none =>
      have h3 := List.getElem?_eq_none_iff.mp hj
      rw [Array.length_toList] at h3
      rw [List.getElem?_eq_none (by omega)]
      rfl
    | some v =>
      obtain ⟨en, hen, hv⟩ := h2 j v (by rw [← Array.getElem?_toList]; exact hj)
      have qe := entry_at he j
      rw [hen] at qe
      cases hb : ks[j]? with
      | none =>
        rw [hb] at qe
        exact nomatch (show some en = none from qe)
      | some b =>
        rw [hb] at qe
        have e2 : en = entryOfKey (tupleKind (mixKind X.prog X.w)) b := Option.some.inj qe
        rw [hv, e2]
        rfl
  · intro d hd d' hd'
    obtain ⟨x, _, rfl⟩ := List.mem_map.mp hd
    obtain ⟨y, _, rfl⟩ := List.mem_map.mp hd'
    exact alike_pair _ _ _ _
  · exact .inl fun d hd => by
      obtain ⟨x, _, rfl⟩ := List.mem_map.mp hd
      exact ⟨_, _, rfl⟩
end
end Y
/-! Own exceptions (over ValueError) as values: made, asked for their class, their fields read. -/
namespace Y
open PySem PySem.Spec PyProof.Rows L2
/-- at a: an exception of the class at C with these fields -/
def Ex (H : Hp) (a C : Addr) (fs : List (Str × V)) : Prop := (H a = some (exo a C none) ∧ fs = []) ∨ ∃ dx, H a = some (exo a C (some dx)) ∧ H dx = some (exd dx fs)
theorem Sub.ex {B H : Hp} {a C : Addr} {fs : List (Str × V)} (h : Sub B H) (r : Ex B a C fs) : Ex H a C fs := by
  rcases r with ⟨r, e⟩ | ⟨dx, r, e⟩
  · rcases h a _ r with q | ⟨m, _⟩
    · exact .inl ⟨q, e⟩
    · exact m.elim
  · rcases h a _ r with q | ⟨m, _⟩
    · rcases h dx _ e with q2 | ⟨m, _⟩
      · exact .inr ⟨dx, q, q2⟩
      · exact m.elim
    · exact m.elim
theorem Same.ex {B B' : Hp} {a C : Addr} {fs : List (Str × V)} (h : Same B B') (r : Ex B a C fs) : Ex B' a C fs := by
  rcases r with ⟨r, e⟩ | ⟨dx, r, e⟩
  · exact .inl ⟨h _ _ r, e⟩
  · exact .inr ⟨dx, h _ _ r, h _ _ e⟩
/-- the instance as the model has it -/
theorem Ex.inst {P : Program} {w : World} {H : Hp} {h : Heap} {a C : Addr} {fs : List (Str × V)} (x : Ex H a C fs) (hok : HOk P w H h) : ∃ ox od, PySem.W.InstAt h a ox C od := by
  rcases x with ⟨r, e⟩ | ⟨dx, r, e⟩
  · obtain ⟨t1, ho⟩ := exo_at hok r
    exact ⟨_, none, ho, rfl, rfl, trivial⟩
  · obtain ⟨t1, ho⟩ := exo_at hok r
    obtain ⟨mA, hns, rel⟩ := exd_at hok e
    obtain ⟨od, hd, hl⟩ := lookIn_ns hns
    exact ⟨_, some od, ho, rfl, rfl, hd⟩
/-! ### isinstance -/
def rIsX (K : PySem.W.Frag) : List V → Hp → VK → Prop := fun xs H Q => ∃ (a C : Addr) (fs : List (Str × V)) (c : V) (cv : Value) (b : Bool), xs = [.ref a, c] ∧ Ex H a C fs ∧ ExcC K C ∧ (∀ u, RelV c u → u = cv) ∧ PySem.W.kitOne K (.ref C) cv = some b ∧ Q (.bl b) H
theorem call_isX {X : Cx} {K : PySem.W.Frag} (hK : X.K = K) : CallR X (.builtin "isinstance") (rIsX K) := by
  subst hK
  intro pins s σ H xs us Q I r h
  obtain ⟨a, C, fs, c, cv, b, rfl, hx, T, hcv, e, q⟩ := h
  cases r with
  | cons rx rr =>
    cases rr with
    | cons rt rr =>
      cases rr
      cases rx
      have ec := hcv _ rt
      subst ec
      obtain ⟨ox, od, J⟩ := hx.inst I.hok
      have hcl : (PySem.W.clsIn X.K C).isSome = true := by
        obtain ⟨cd, hc, _⟩ := PySem.W.any_some T.hd
        rw [hc]; rfl
      exact PySem.W.kia_one (PySem.W.kitx_exc hcl T.hg T.hk T.hs T.ha T.hn T.ht T.hm) I.kIn J e (fun z => nomatch z) fun tk => ⟨.bl b, H, I.kept (t' := tk) fun _ _ z => z, rfl, q⟩
/-! ### fields -/
def tExF (K : PySem.W.Frag) (f : Str) (te : TE) : TE := fun σ H Q => te σ H fun x H1 => ∃ (a C : Addr) (fs : List (Str × V)) (v : V), x = .ref a ∧ Ex H1 a C fs ∧ XfC K C ∧ PySem.W.findIn K (.ref C) f = some none ∧ fs.lookup f = some v ∧ Q v H1
theorem pe_exF {X : Cx} {K : PySem.W.Frag} {e : Expr} {te : TE} {pos : Pos} {n : Str} (hK : X.K = K) (he : PE X e te) (hb : attributeBase e n X.env (eval e X.env) = eval e X.env := by rfl) : PE X (.Attribute e n pos) (tExF K n te) := by
  subst hK
  refine ⟨fun pins s σ H Q I h => ?_⟩
  refine attr_of hb (thn (he.run pins s σ H _ I h) fun u s1 hh => ?_)
  obtain ⟨x, H1, I1, rx, a, C, fs, v, ex, hx, T, hno, l, q⟩ := hh
  subst ex
  obtain rfl : u = Value.ref a := rx
  rcases hx with ⟨r, e⟩ | ⟨dx, r, e⟩
  · subst e; cases l
  obtain ⟨t1, ho⟩ := exo_at I1.hok r
  obtain ⟨mA, hns, hr⟩ := exd_at I1.hok e
  obtain ⟨od, hd, hl⟩ := lookIn_ns hns
  obtain ⟨u, hu, ru⟩ := RelO.some_of (v := v) (o := mA n) (by rw [← l]; exact hr n)
  have J : PySem.W.InstAt s1.heap a _ C (some od) := ⟨ho, rfl, rfl, hd⟩
  exact HandSPX.exc_get I1.kIn J T.ga T.gg T.exC (PySem.W.findObj_own T.hdC hno rfl (by rw [hl, hu])) (handed_of ru) ⟨v, H1, I1.tok _, ru, q⟩
/-! ### making -/
/-- C(): a class without an own __init__ -/
def tExc0 (C : Addr) : TE := fun _ H Q => ∀ a, H a = none → Q (.ref a) (upd H a (exo a C none))
theorem pe_exc0 {X : Cx} {C : Addr} {bmB : List Value} {B newId initId : String} {x : Str} {p pos : Pos} (F : ExcBaseFacts B newId initId bmB) (q : PySem.W.excIn X.K C bmB newId = true) (gC : X.mg x = some (.ref C)) (kC : PySem.W.keepIn X.K (.ref C) = true) (hg : Gl X x)
    (hdb : (x == ("__debug__" : Str)) = false := by decide) :
    PE X (.Call (.Name x p) [] [] pos) (tExc0 C) := by
  refine ⟨fun pins s σ H Q I h => ?_⟩
  refine wpAny_Call_Name_kw (ld_glob I hg gC ?_ hdb)
  refine PySem.W.callWith_K0 I.kIn kC ?_
  show wpAny _ _ (call (.ref C) []) _ _ _
  obtain ⟨bm, N, nm, qn, bs, hdct, sn, sub, ab, col, dd, k0, k1, k2, k3, k5, mN, hC, hN, hni, T⟩ := exc_obj I.kIn q
  refine wpAny_call_exc_subT F T hC hN hni (fun h' a hm => ?_) (by show 0 ≤ sizeLine; omega)
  have hn : H a = none := I.hok.gone hm.new
  obtain ⟨t, ht, _, _⟩ := hm.there
  exact ⟨.ref a, upd H a (exo a C none), I.laidN hm.keeps hm.new hn (exo_ok ht), rfl, h a hn⟩
/-- C(e, ..), C's own __init__ keeping sp -/
def tMkX (C : Addr) (sp : Sp) (ta : TA) : TE := fun σ H Q => ta σ H fun vs H1 => vs.length ≤ 1000 ∧ ∀ a, H1 a = none → sp (.ref a :: vs) (upd H1 a (exo a C none)) (fun v H2 => v = .non ∧ Q (.ref a) H2) E0
theorem pe_mkX {X : Cx} {e : Expr} {es : List Expr} {ta : TA} {p pos : Pos} {x : Str} {C fI : Addr} {k : Nat} {fd : FuncData} {ps : List Str} {sp : Sp} (T : OexC X.K C) (iC : PySem.W.findIn X.K (.ref C) "__init__" = some (some (.ref fI))) (tI : PySem.W.typeIn X.K (.ref fI) = some (.type "function"))
    (F1 : FnOk X.prog X.w X.K X.mg X.base CX0 k fI fd ps sp) (hr : Room (k + 1) X.A) (hb : Binds X.K fd ps []) (hg : Gl X x) (hm : X.mg x = some (.ref C)) (ha : PA X (e :: es) ta)
    (hdb : (x == ("__debug__" : Str)) = false := by decide) (he : starEach (e :: es) X.env = (false, eval e X.env) :: starEach es X.env := by rfl) (hpl : (backTo pos (starEach es X.env)).any (·.1) = false := by rfl) :
    PE X (.Call (.Name x p) (e :: es) [] pos) (tMkX C sp ta) := by
  refine ⟨fun pins s σ H Q I h => ?_⟩
  obtain ⟨nm, q, N, bs, bm, sn, sub, ab, col, dd, k0, k1, k2, k3, k5, hC, hbm⟩ := T.cls
  refine wpAny_Call_Name_kw (ld_glob I hg hm ?_ hdb)
  refine PySem.W.callWith_K (h₀ := X.base) I.ok.mod.kin T.kC (thn (ha.run pos pins s σ H _ I h) fun us s1 ⟨vs, H1, I1, r1, hz, q1⟩ => ⟨I1.kIn, ?_⟩) he hpl
  show wpAny _ _ (call (.ref C) us) _ _ _
  obtain ⟨hp, g, dr, tk, os⟩ := s1
  have hsz : hp.objs.size ≤ hp.objs.size + 1 := Nat.le_succ _
  have hn : H1 (hp.objs.size + 1) = none := I1.hok.fresh hsz
  have hq := q1 (hp.objs.size + 1) hn
  have kk : ∀ b o, hp.get? b = some o → ((hp.push (PySem.W.kdv_tup us)).push (PySem.HandSPX.excO C hp.objs.size)).get? b = some o := fun b o e => Heap.get?_push_of_some _ (Heap.get?_push_of_some _ e)
  have hget : ((hp.push (PySem.W.kdv_tup us)).push (PySem.HandSPX.excO C hp.objs.size)).get? (hp.objs.size + 1) = some (PySem.HandSPX.excO C hp.objs.size) := by heap_get
  have I2 : Inv X pins σ (upd H1 (hp.objs.size + 1) (exo (hp.objs.size + 1) C none)) ⟨(hp.push (PySem.W.kdv_tup us)).push (PySem.HandSPX.excO C hp.objs.size), g, dr, tk, os⟩ :=
    I1.laid (t' := tk) (a := hp.objs.size + 1) (o := exo (hp.objs.size + 1) C none) (h' := (hp.push (PySem.W.kdv_tup us)).push (PySem.HandSPX.excO C hp.objs.size)) kk hsz (exo_ok hget)
  have r2 : Vals (V.ref (hp.objs.size + 1) :: vs) (Value.ref (hp.objs.size + 1) :: us) := .cons rfl r1
  have hl : (Value.ref (hp.objs.size + 1) :: us ++ []).length = ps.length := by
    have e := r2.length
    rw [F1.len _ _ _ _ hq] at e
    simpa using e.symm
  have hus : us.length ≤ sizeLine := by
    rw [← Paired.length r1, sizeLine_eq]
    omega
  have hbd := hb ⟨(hp.push (PySem.W.kdv_tup us)).push (PySem.HandSPX.excO C hp.objs.size), g, dr, tk, os⟩ (Value.ref (hp.objs.size + 1) :: us) I2.kIn hl
  rw [List.append_nil] at hbd
  refine wpAny_call (PySem.HandSPX.call_own F.excBase_ValueError (fun Y => PySem.HandSPX.refsVE_contains Y bm hbm) (I1.kIn _ _ hC) (PySem.W.looks_findIn I1.kIn iC) (fun self => PySem.W.bind_fn I1.kIn self tI) hus
    (codeAny_mono (F1.run _ X.stack _ _ ⟨Value.ref (hp.objs.size + 1) :: us, []⟩ (Value.ref (hp.objs.size + 1) :: us) _ _ E0 (hr.make C us []) (I2.env0.make C us []) hbd r2 hq) fun r s' hq' => ?_))
  cases r with
  | error er => exact pass0 pins σ _ _ er s' I2 hq'
  | ok fl =>
    cases fl with
    | ret u =>
      obtain ⟨z, H', I', rz, rfl, q⟩ := I2.after hq'
      exact ⟨rz, .ref _, H', I', rfl, q⟩
    | next => exact False.elim hq'
    | brk => exact False.elim hq'
    | cont => exact False.elim hq'
/-! ### what is told of a class -/
structure XCls (K : PySem.W.Frag) (C : Addr) : Prop where
  o : OexC K C
  f : XfC K C
  i : ExcC K C
def oexB (K : PySem.W.Frag) (C : Addr) : Bool := match K.lookup C with
  | some ⟨.type "type", _, .cls cd, sl⟩ => (match cd.mro, sl.toList with
    | .ref C' :: bm, [_, _, _, _, some (.builtin n), _] => C' == C && n == "ValueError.__new__" && !cd.hasDel && cd.hasDict && PySem.HandSPX.refsVE bm
    | _, _ => false)
  | _ => false
theorem oexB_ok {K : PySem.W.Frag} {C : Addr} (q : oexB K C = true) : ∃ nm q N bs bm sn sub ab col dd k0 k1 k2 k3 k5, K.lookup C = some (excClassObj nm q C N bs bm true sn sub ab col dd k0 k1 k2 k3 k5 "ValueError.__new__") ∧ PySem.HandSPX.refsVE bm = true := by
  unfold oexB at q
  split at q
  · rename_i dd cd sl ho
    split at q
    · rename_i C' bm k0 k1 k2 k3 n k5 hm hs
      simp only [Bool.and_eq_true, beq_iff_eq, Bool.not_eq_true'] at q
      obtain ⟨⟨⟨⟨rfl, rfl⟩, hdel⟩, hdc⟩, ht⟩ := q
      obtain ⟨nm, bs, mro, ns, qn, hd, sn, sub, ab, col, del⟩ := cd
      dsimp only at hm hdel hdc
      subst hm hdel hdc
      have hsl : sl = #[k0, k1, k2, k3, some (.builtin "ValueError.__new__"), k5] := by
        obtain ⟨l⟩ := sl
        simp only at hs
        rw [hs]
      subst hsl
      exact ⟨nm, qn, ns, bs, bm, sn, sub, ab, col, dd, k0, k1, k2, k3, k5, ho, ht⟩
    · cases q
  · cases q
def xclsB (K : PySem.W.Frag) (C : Addr) : Bool := oexB K C && (decide (PySem.W.findIn K (.ref C) "__setattr__" = some (some (.builtin "object.__setattr__"))) && (decide (PySem.W.subIn K (.ref C) (.type "BaseException") = some true) && (decide (PySem.W.typeIn K (.ref C) = some (.type "type")) &&
  (PySem.W.keepIn K (.ref C) && (xfB K C && (decide (PySem.W.findIn K (.ref C) "__class__" = some (some (.builtin "object.__class__"))) && (decide (PySem.W.specialIn K (.builtin "object.__class__") "__get__" = some (some (.builtin "getset_descriptor.__get__"))) &&
  (decide (PySem.W.takesIn K (.builtin "object.__class__") = some true) && decide (PySem.W.mroIn K C (.type "object") = some true)))))))))
theorem xclsB_ok {K : PySem.W.Frag} {C : Addr} (h : xclsB K C = true) : XCls K C := by
  obtain ⟨h1, h⟩ := Bool.and_eq_true_iff.mp h
  obtain ⟨h2, h⟩ := Bool.and_eq_true_iff.mp h
  obtain ⟨h3, h⟩ := Bool.and_eq_true_iff.mp h
  obtain ⟨h4, h⟩ := Bool.and_eq_true_iff.mp h
  obtain ⟨h5, h⟩ := Bool.and_eq_true_iff.mp h
  obtain ⟨h6, h⟩ := Bool.and_eq_true_iff.mp h
  obtain ⟨h7, h⟩ := Bool.and_eq_true_iff.mp h
  obtain ⟨h8, h⟩ := Bool.and_eq_true_iff.mp h
  obtain ⟨h9, h10⟩ := Bool.and_eq_true_iff.mp h
  have f := xfB_ok h6
  exact ⟨⟨oexB_ok h1, of_decide_eq_true h2, of_decide_eq_true h3, of_decide_eq_true h4, h5⟩, f, ⟨f.ga, f.gg, f.exC, f.hdC, of_decide_eq_true h7, of_decide_eq_true h8, of_decide_eq_true h9, of_decide_eq_true h10⟩⟩
def xtyB (K : PySem.W.Frag) (f : Addr) : Bool := decide (PySem.W.typeIn K (.ref f) = some (.type "function"))
theorem xtyB_ok {K : PySem.W.Frag} {f : Addr} (h : xtyB K f = true) : PySem.W.typeIn K (.ref f) = some (.type "function") := of_decide_eq_true h
/-- isinstance of each by each -/
def xisB (K : PySem.W.Frag) (xs : List Str) (H : Str) : Bool := xs.all fun x => (decide (PySem.W.kitOne K (.ref (He.ga K x)) (.ref (He.ga K H)) = some true) && decide (PySem.W.kitOne K (.ref (He.ga K x)) (.type "ValueError") = some true)) && xs.all fun y => decide (PySem.W.kitOne K (.ref (He.ga K x)) (.ref (He.ga K y)) = some (decide (x = y)))
structure XIs (K : PySem.W.Frag) (xs : List Str) (H : Str) : Prop where
  own : ∀ x ∈ xs, ∀ y ∈ xs, PySem.W.kitOne K (.ref (He.ga K x)) (.ref (He.ga K y)) = some (decide (x = y))
  up : ∀ x ∈ xs, PySem.W.kitOne K (.ref (He.ga K x)) (.ref (He.ga K H)) = some true
  ve : ∀ x ∈ xs, PySem.W.kitOne K (.ref (He.ga K x)) (.type "ValueError") = some true
theorem xisB_ok {K : PySem.W.Frag} {xs : List Str} {H : Str} (h : xisB K xs H = true) : XIs K xs H := by
  have h1 := fun x hx => Bool.and_eq_true_iff.mp (List.all_eq_true.mp h x hx)
  exact ⟨fun x hx y hy => of_decide_eq_true (List.all_eq_true.mp (h1 x hx).2 y hy), fun x hx => of_decide_eq_true (Bool.and_eq_true_iff.mp (h1 x hx).1).1, fun x hx => of_decide_eq_true (Bool.and_eq_true_iff.mp (h1 x hx).1).2⟩
/-! ### making, by a promise -/
def OkX (P : Program) (w : World) (K : PySem.W.Frag) (mg : Str → Option Value) (base : Heap) (C : Addr) (k : Nat) (x : Str) (ps : List Str) (sp : Sp) : Prop :=
  ∃ f fd, OexC K C ∧ PySem.W.findIn K (.ref C) "__init__" = some (some (.ref f)) ∧ PySem.W.typeIn K (.ref f) = some (.type "function") ∧ mg x = some (.ref C) ∧ Binds K fd ps [] ∧ FnOk P w K mg base CX0 k f fd ps sp
theorem OkM.mkX {P : Program} {w : World} {K : PySem.W.Frag} {mg : Str → Option Value} {base : Heap} {C f : Addr} {k : Nat} {x : Str} {ps : List Str} {sp : Sp} (O : OkM P w K mg base C k "__init__" ps [] sp) (T : OexC K C) (M : Meth K C "__init__" f) (ty : PySem.W.typeIn K (.ref f) = some (.type "function")) (g : mg x = some (.ref C)) : OkX P w K mg base C k x ps sp := by
  obtain ⟨f', fd, ds, h1, h2, h3, h4⟩ := O
  cases h2
  have e : f' = f := by
    have := h1.at_.symm.trans M.at_
    cases this
    rfl
  subst e
  exact ⟨f', fd, T, M.at_, ty, g, h3, h4⟩
theorem pe_xO {X : Cx} {e : Expr} {es : List Expr} {ta : TA} {p pos : Pos} {x : Str} {C : Addr} {k : Nat} {ps : List Str} {sp : Sp} (O : OkX X.prog X.w X.K X.mg X.base C k x ps sp) (hr : Room (k + 1) X.A) (hg : Gl X x) (ha : PA X (e :: es) ta)
    (hdb : (x == ("__debug__" : Str)) = false := by decide) (he : starEach (e :: es) X.env = (false, eval e X.env) :: starEach es X.env := by rfl) (hpl : (backTo pos (starEach es X.env)).any (·.1) = false := by rfl) :
    PE X (.Call (.Name x p) (e :: es) [] pos) (tMkX C sp ta) := by
  obtain ⟨f, fd, T, h1, h2, h3, h4, h5⟩ := O
  exact pe_mkX T h1 h2 h5 hr h4 hg h3 ha hdb he hpl
/-- what an own __init__ does: n fields -/
def spX (C : Addr) (n : Nat) (gf : List V → List (Str × V)) : Sp := fun vs H Q _ => ∃ a ws, vs = .ref a :: ws ∧ ws.length = n ∧ H a = some (exo a C none) ∧ ∀ dx, H dx = none → dx ≠ a → Q .non (upd (upd H dx (exd dx (gf ws))) a (exo a C (some dx)))
section
variable {K : PySem.W.Frag} {σ : L2.St} {e : En} {B B' H : Hp} {L : Led} {Q : VK} {to te : TE} {ta : TA} {v x y : V} {vs : List V} {a dx C : Addr} {f : Str} {fs : List (Str × V)} {nx bk ct : L2.St → Hp → Prop} {rt : VK} {n : Nat} {gf : List V → List (Str × V)}
def OstK (K : PySem.W.Frag) (f : Str) (y : V) (N : Hp → Prop) : VK := fun x H2 => ∃ a C : Addr, x = .ref a ∧ OexC K C ∧ PySem.W.findIn K (.ref C) f = some none ∧
  ((H2 a = some (exo a C none) ∧ ∀ dx, H2 dx = none → dx ≠ a → N (upd (upd H2 dx (exd dx [(f, y)])) a (exo a C (some dx)))) ∨
    ∃ (dx : Addr) (fs : List (Str × V)), H2 a = some (exo a C (some dx)) ∧ H2 dx = some (exd dx fs) ∧ fs.length ≤ 900 ∧ N (upd H2 dx (exd dx ((f, y) :: fs))))
theorem y_ost (h : te σ H fun y H1 => to σ H1 (OstK K f y (nx σ))) : tOst K f to te ⟨nx, rt, bk, ct⟩ σ H := h
theorem upd2 {H : Hp} {a dx : Addr} {o u o' : HO} (h : dx ≠ a) : upd (upd (upd H dx o) a u) dx o' = upd (upd H dx o') a u := by
  funext b
  by_cases h1 : b = dx
  · subst h1; rw [upd_same, upd_ne h, upd_same]
  · rw [upd_ne h1]
    by_cases h2 : b = a
    · subst h2; rw [upd_same, upd_same]
    · rw [upd_ne h2, upd_ne h2, upd_ne h1, upd_ne h1]
def MkXK (C : Addr) (sp : Sp) (Q : VK) : List V → Hp → Prop := fun vs H1 => vs.length ≤ 1000 ∧ ∀ a, H1 a = none → sp (.ref a :: vs) (upd H1 a (exo a C none)) (fun v H2 => v = .non ∧ Q (.ref a) H2) E0
theorem y_mkX (h : ta σ H (MkXK C (spX C n gf) Q)) : tMkX C (spX C n gf) ta σ H Q := h
theorem y_mkXK (S : Sy e B H L) (hl : vs.length = n) (hn : n ≤ 1000) (k : ∀ a B' H', Same B B' → Ex B' a C (gf vs) → Sy e B' H' L → Q (.ref a) H') : MkXK C (spX C n gf) Q vs H := by
  refine ⟨by omega, fun a ha => ⟨a, vs, rfl, hl, upd_same, fun dx hd hne => ⟨rfl, ?_⟩⟩⟩
  rw [upd_ne hne] at hd
  obtain ⟨b1, S1⟩ := S.newI (o := exd dx (gf vs)) hd
  obtain ⟨b2, S2⟩ := S1.newI (p := a) (o := exo a C (some dx)) (by rw [upd_ne (fun z => hne z.symm)]; exact ha)
  have e1 : upd (upd (upd H a (exo a C none)) dx (exd dx (gf vs))) a (exo a C (some dx)) = upd (upd H dx (exd dx (gf vs))) a (exo a C (some dx)) := by
    funext b
    by_cases h2 : b = a
    · subst h2; rw [upd_same, upd_same]
    · rw [upd_ne h2, upd_ne h2]
      by_cases h1 : b = dx
      · subst h1; rw [upd_same, upd_same]
      · rw [upd_ne h1, upd_ne h1, upd_ne h2]
  rw [e1]
  exact k a _ _ (b1.trans b2) (.inr ⟨dx, upd_same, by rw [upd_ne hne, upd_same]⟩) S2
theorem y_exc0 (S : Sy e B H L) (k : ∀ a B' H', Same B B' → Ex B' a C [] → Sy e B' H' L → Q (.ref a) H') : tExc0 C σ H Q := fun a ha => by
  obtain ⟨b1, S1⟩ := S.newI (o := exo a C none) ha
  exact k a _ _ b1 (.inl ⟨upd_same, rfl⟩) S1
def ExFK (K : PySem.W.Frag) (f : Str) (Q : VK) : VK := fun x H1 => ∃ (a C : Addr) (fs : List (Str × V)) (v : V), x = .ref a ∧ Ex H1 a C fs ∧ XfC K C ∧ PySem.W.findIn K (.ref C) f = some none ∧ fs.lookup f = some v ∧ Q v H1
theorem y_exF (h : te σ H (ExFK K f Q)) : tExF K f te σ H Q := h
theorem y_exFK (S : Sy e B H L) (hx : Ex B a C fs) (T : XCls K C) (hn : NoAttr K C f) (hl : fs.lookup f = some v) (q : Q v H) : ExFK K f Q (.ref a) H := ⟨a, C, fs, v, rfl, S.bh.ex hx, T.f, hn, hl, q⟩
end
end Y
/-! Wider rules: products of wide numbers, isinstance of exceptions too, sorted of many things. -/
namespace Y
open PySem PySem.Spec PyProof.Rows L2
def rMulZ : R2 := fun x y H Q => ∃ i j, x = .int i ∧ y = .int j ∧ (CMul i j ∨ CMulW i j) ∧ Q (.int (i * j)) H
def rIsiZ (K : PySem.W.Frag) : List V → Hp → VK → Prop := fun xs H Q => rIsi K xs H Q ∨ rIsX K xs H Q
def rSortZ (K : PySem.W.Frag) : List V → Hp → VK → Prop := fun xs H Q => rSortU K xs H Q ∨ rSortC K xs H Q ∨ rSortDK xs H Q ∨ rSortDT xs H Q
section
variable {X : Cx} {K : PySem.W.Frag}
theorem op_mulZ : OpR X (binaryOp .Mult) rMulZ := by
  intro pins s σ H x y v u Q I rx ry h
  obtain ⟨i, j, e1, e2, h | h, q⟩ := h
  · exact op_mul pins s σ H x y v u Q I rx ry ⟨i, j, e1, e2, h, q⟩
  · exact op_mulW pins s σ H x y v u Q I rx ry ⟨i, j, e1, e2, h, q⟩
theorem call_isiZ (hK : X.K = K) : CallR X (.builtin "isinstance") (rIsiZ K) := CallR.or (call_isiU hK) (call_isX hK)
theorem call_sortedZ (hK : X.K = K) (hc : X.calm = true) (hu : X.A.units + 64 < cLine) : CallR X (.builtin "sorted") (rSortZ K) := CallR.or (call_sortedU hK) (CallR.or (cr_sortC hK hu) (CallR.or (cr_sortDK hc hu) (cr_sortDT hc hu)))
end
section
variable {K : PySem.W.Frag} {e : En} {B H : Hp} {L : Led} {Q : VK} {x : V} {a C : Addr} {fs : List (Str × V)}
theorem y_mulZ {i j : Int} (h : CMul i j) (q : Q (.int (i * j)) H) : rMulZ (.int i) (.int j) H Q := ⟨i, j, rfl, rfl, .inl h, q⟩
theorem y_mulW {i j : Int} {a b : Nat} (ha : i.natAbs < 2 ^ a) (hb : j.natAbs < 2 ^ b) (h0 : 0 < a) (h1 : 0 < b) (h : a + b ≤ 1000000) (q : Q (.int (i * j)) H) : rMulZ (.int i) (.int j) H Q := ⟨i, j, rfl, rfl, .inr (wide_mul ha hb h0 h1 h), q⟩
theorem y_isiZ {s t : String} {r : Bool} (S : Sy e B H L) (h : Kd K B x s) (hr : kitB s t = some r) (q : Q (.bl r) H) : rIsiZ K [x, .ty t] H Q := .inl (y_isi (h.up S.bh) hr q)
/-- isinstance(an exception, an own class) -/
theorem y_isX {D : Addr} {b : Bool} (S : Sy e B H L) (hx : Ex B a C fs) (T : XCls K C) (h : PySem.W.kitOne K (.ref C) (.ref D) = some b) (q : Q (.bl b) H) : rIsiZ K [.ref a, .ref D] H Q :=
  .inr ⟨a, C, fs, .ref D, .ref D, b, rfl, S.bh.ex hx, T.i, fun u ru => ru, h, q⟩
theorem y_isXt {t : String} {b : Bool} (S : Sy e B H L) (hx : Ex B a C fs) (T : XCls K C) (h : PySem.W.kitOne K (.ref C) (.type t) = some b) (q : Q (.bl b) H) : rIsiZ K [.ref a, .ty t] H Q :=
  .inr ⟨a, C, fs, .ty t, .type t, b, rfl, S.bh.ex hx, T.i, fun u ru => ru, h, q⟩
end
end Y
namespace K71
open PySem PySem.Spec PyProof.Rows L2 Y
local macro_rules | `(tactic| walk_at "asm") => `(tactic| assumption)
local macro_rules | `(tactic| walk_at "up") => `(tactic| first
  | assumption
  | exact Same.refl _
  | ((refine' Same.trans ?_ (by assumption)); walk_at "up"))
local macro_rules | `(tactic| walk_at "led") => `(tactic| first
  | exact Sy.at (by assumption) 0 rfl
  | exact Sy.at (by assumption) 1 rfl
  | exact Sy.at (by assumption) 2 rfl
  | exact Sy.at (by assumption) 3 rfl
  | exact Sy.at (by assumption) 4 rfl
  | exact Sy.at (by assumption) 5 rfl
  | exact Sy.at (by assumption) 6 rfl
  | exact Sy.at (by assumption) 7 rfl
  | exact Sy.at (by assumption) 8 rfl
  | exact Sy.at (by assumption) 9 rfl
  | exact Sy.at (by assumption) 10 rfl
  | exact Sy.at (by assumption) 11 rfl)
/- a fact of data, lifted -/
local macro_rules | `(tactic| walk_at "at") => `(tactic| first
  | assumption
  | exact At.int
  | exact At.str
  | exact At.bool
  | ((refine' At.up ?hs ?hf); (case hf => assumption); (case hs => walk_at "up")))
local macro_rules | `(tactic| walk_at "pr") => `(tactic| first
  | assumption
  | ((refine' pr_up at_up ?hs ?hf); (case hf => assumption); (case hs => walk_at "up")))
local macro_rules | `(tactic| walk_at "var") => `(tactic| ((with_reducible refine' y_var ?hv ?_); (case hv => exact rfl)))
/- facts of lists: the ledger, then the base -/
local macro_rules | `(tactic| walk_at "sq") => `(tactic| first
  | exact sqL (by walk_at "led")
  | exact Sy.l (by assumption) (by assumption)
  | exact Sy.l (by assumption) (sqL (by assumption))
  | ((refine' Sy.l (by assumption) (up_l ?hs ?hf)); (case hf => assumption); (case hs => walk_at "up"))
  | ((refine' Sy.l (by assumption) (sqL (up_o ?hs ?hf))); (case hf => assumption); (case hs => walk_at "up")))
local macro_rules | `(tactic| walk_at "sqt") => `(tactic| first
  | exact Sy.t (by assumption) (by assumption)
  | exact Sy.t (by assumption) (sqT (by assumption))
  | ((refine' Sy.t (by assumption) (up_t ?hs ?hf)); (case hf => assumption); (case hs => walk_at "up"))
  | ((refine' Sy.t (by assumption) (sqT (up_o ?hs ?hf))); (case hf => assumption); (case hs => walk_at "up")))
local macro_rules | `(tactic| walk_at "y") => `(tactic| first
  | with_reducible refine y_seq ?_
  | with_reducible refine y_asg ?_
  | with_reducible refine y_gname ?_
  | with_reducible refine y_ret ?_
  | with_reducible refine y_drop ?_
  | with_reducible refine y_next ?_
  | walk_at "var"
  | with_reducible refine y_c ?_
  | with_reducible refine y_op ?_
  | with_reducible refine y_un ?_
  | with_reducible refine y_nil ?_
  | with_reducible refine y_cons ?_
  | with_reducible refine y_call ?_
  | with_reducible refine y_cb ?_
  | with_reducible refine y_test ?_
  | with_reducible refine y_tB ?_
  | with_reducible refine y_blK ?_
  | with_reducible refine y_and ?_
  | with_reducible refine y_or ?_
  | with_reducible refine y_not ?_
  | with_reducible refine y_andV ?_
  | with_reducible refine y_andK ?_
  | with_reducible refine y_orV ?_
  | with_reducible refine y_orK ?_
  | with_reducible refine y_notV ?_
  | with_reducible refine y_notK ?_
  | with_reducible refine y_chain ?_
  | with_reducible refine y_chK ?_
  | with_reducible refine y_ifE ?_
  | with_reducible refine y_addI ?_
  | with_reducible refine y_subI ?_
  | with_reducible refine y_negI ?_
  | with_reducible refine y_ltI ?_
  | with_reducible refine y_leI ?_
  | with_reducible refine y_gtI ?_
  | with_reducible refine y_geI ?_
  | with_reducible refine z_eqI ?_
  | with_reducible refine z_neI ?_
  | with_reducible refine z_eqS ?_
  | with_reducible refine z_neS ?_
  | with_reducible refine z_neNI ?_
  | with_reducible refine z_neNN ?_
  | with_reducible refine z_neB ?_
  | with_reducible refine z_eqB ?_
  | with_reducible refine z_inSg ?_
  | with_reducible refine z_notInSg ?_
  | ((with_reducible refine' y_ixDS ?hq ?hl ?_); (case hq => walk_at "led"); (case hl => exact rfl))
  | with_reducible refine y_itup ?_
  | ((with_reducible refine' y_tupK ?hq ?_); (case hq => walk_at "sqt"))
  | with_reducible refine y_pcons ?_
  | with_reducible refine y_pnil ?_
  | with_reducible refine y_fld ?_
  | ((with_reducible refine' y_fldK ?hq ?hl ?_); (case hq => walk_at "led"); (case hl => exact rfl))
  | with_reducible refine y_sfld ?_
  | with_reducible refine y_afld ?_
  | with_reducible refine y_meth ?_
  | with_reducible refine y_methN ?_
  | ((with_reducible refine' y_mthK ?hq ?hl ?_); (case hq => walk_at "led"); (case hl => exact rfl))
  | ((with_reducible refine' y_mthNK ?hq ?hl ?_); (case hq => walk_at "led"); (case hl => exact rfl))
  | with_reducible refine y_make ?_
  | with_reducible refine y_makeN ?_
  | with_reducible refine y_m0 ?_
  | with_reducible refine y_m1 ?_
  | with_reducible refine And.intro ⟨_, rfl⟩ ?_
  | ((with_reducible refine' y_lenS ?hq ?_); (case hq => exact lenOk (by first | omega | decide)))
  | ((with_reducible refine' y_slS ?hq ?_); (case hq => exact lenOk (by first | omega | decide)))
  | ((with_reducible refine' y_addS ?hq ?_); (case hq => exact lenOk (by first | omega | decide)))
  | with_reducible refine y_isN0 ?_
  | with_reducible refine y_isN1 ?_
  | with_reducible refine y_isN2 ?_
  | with_reducible refine y_notN0 ?_
  | with_reducible refine y_notN1 ?_
  | with_reducible refine y_notN2 ?_
  | with_reducible refine y_true ?_
  | with_reducible refine y_false ?_
  | with_reducible refine y_notT ?_
  | with_reducible refine y_notF ?_
  | with_reducible refine y_max2 ?_
  | with_reducible refine y_min2 ?_
  | with_reducible refine y_gsub ?_
  | with_reducible refine y_for ?_
  | with_reducible refine y_lc ?_
  | with_reducible refine y_tup ?_
  | with_reducible refine y_lst ?_
  | with_reducible refine y_bm ?_
  | with_reducible refine y_bm0 ?_
  | with_reducible refine y_sl ?_
  | with_reducible refine y_part ?_
  | with_reducible refine y_ptK ?_
  | with_reducible refine y_nopart ?_
  | ((with_reducible refine' y_mulZ ?hc ?_); (case hc => first | exact .inl ⟨by omega, by omega⟩ | exact .inr ⟨by omega, by omega⟩))
  | with_reducible refine y_exF ?_
  | with_reducible refine y_ost ?_
  | with_reducible refine y_mkX ?_
  | ((with_reducible refine' y_mulI ?hc ?_); (case hc => first | exact .inl ⟨by omega, by omega⟩ | exact .inr ⟨by omega, by omega⟩))
  | ((with_reducible refine' y_modI ?hc ?_); (case hc => omega))
  | ((with_reducible refine' y_ixL ?hq ?ha ?_); (case hq => walk_at "sq"); (case ha => exact rfl))
  | ((with_reducible refine' y_ixT ?hq ?ha ?_); (case hq => walk_at "sqt"); (case ha => exact rfl))
  | ((with_reducible refine' y_lenL ?hq ?_); (case hq => walk_at "sq"))
  | ((with_reducible refine' y_lenT ?hq ?_); (case hq => walk_at "sqt"))
  | with_reducible refine y_dnew ?_
  | with_reducible refine y_callN ?_
  | with_reducible refine y_callNK rfl rfl ?_
  | with_reducible refine y_ikeys ?_
  | with_reducible refine y_gcons ?_
  | with_reducible refine y_gnil ?_
  | with_reducible refine y_irng3 ?_
  | with_reducible refine z_neIN ?_
  | with_reducible refine y_intB ?_
  | with_reducible refine y_intI ?_
  | with_reducible refine y_ivals ?_
  | with_reducible refine y_iitems ?_
  | with_reducible refine y_yes ?_
  | ((with_reducible refine And.intro ?hw ?_); (case hw => (show wipe _ _ = wipe _ _); exact rfl))
  | with_reducible refine y_irng1 ?_
  | with_reducible refine y_irng2 ?_
  | with_reducible refine y_ilist ?_
  | with_reducible refine y_istr ?_
  | with_reducible refine y_strK ?_
  | ((with_reducible refine' y_rngK ?h1 ?h2 ?_); (case h1 => omega); (case h2 => omega))
  | ((with_reducible refine' y_rngK2 ?h1 ?h2 ?h3 ?h4 ?_); (case h1 => omega); (case h2 => omega); (case h3 => omega); (case h4 => omega))
  | ((with_reducible refine' y_lstK ?hq ?_); (case hq => walk_at "sq"))
  | ((with_reducible refine And.intro (lenOk ?hl) ?_); (case hl => exact Nat.le_of_ble_eq_true rfl))
  | ((with_reducible refine' And.intro (tyL ?hq) ?_); (case hq => walk_at "led")))
local macro_rules | `(tactic| walk_at "yy") => `(tactic| repeat (first | walk_at "y" | with_reducible refine y_ifS ?_))
/- the walk ahead of an if -/
local macro_rules | `(tactic| walk_at "yn") => `(tactic| repeat walk_at "y")

section
variable {P : Program} {w : World} {K : PySem.W.Frag} {mg : Str → Option Value} {base : Heap}
def topS (i : Nat) : Stmt := PySem.Challenge.pw_slotkeep_k71_refusals_made.main.body.getD i (.Pass ⟨0, 0, 0, 0⟩)
abbrev s_NoKey___init__ : Stmt := inClass (topS 2) 0
theorem sc_NoKey___init__ : FnScope ["self", "key"] ["self", "key"] (defScope s_NoKey___init__) := ⟨rfl, rfl, rfl, by decide +kernel, rfl, by decide +kernel, by decide +kernel⟩
abbrev s_NoDealing___init__ : Stmt := inClass (topS 6) 0
theorem sc_NoDealing___init__ : FnScope ["self", "dealing"] ["self", "dealing"] (defScope s_NoDealing___init__) := ⟨rfl, rfl, rfl, by decide +kernel, rfl, by decide +kernel, by decide +kernel⟩
abbrev s_Clash___init__ : Stmt := inClass (topS 7) 0
theorem sc_Clash___init__ : FnScope ["self", "key", "dealing"] ["self", "key", "dealing"] (defScope s_Clash___init__) := ⟨rfl, rfl, rfl, by decide +kernel, rfl, by decide +kernel, by decide +kernel⟩
abbrev s_Late___init__ : Stmt := inClass (topS 8) 0
theorem sc_Late___init__ : FnScope ["self", "key", "dealing"] ["self", "key", "dealing"] (defScope s_Late___init__) := ⟨rfl, rfl, rfl, by decide +kernel, rfl, by decide +kernel, by decide +kernel⟩
abbrev s_NoSuch___init__ : Stmt := inClass (topS 9) 0
theorem sc_NoSuch___init__ : FnScope ["self", "key"] ["self", "key"] (defScope s_NoSuch___init__) := ⟨rfl, rfl, rfl, by decide +kernel, rfl, by decide +kernel, by decide +kernel⟩
abbrev s_Ring___init__ : Stmt := inClass (topS 10) 0
theorem sc_Ring___init__ : FnScope ["self", "dealings"] ["self", "dealings"] (defScope s_Ring___init__) := ⟨rfl, rfl, rfl, by decide +kernel, rfl, by decide +kernel, by decide +kernel⟩
abbrev s_Undone___init__ : Stmt := inClass (topS 11) 0
theorem sc_Undone___init__ : FnScope ["self", "at", "dealing"] ["self", "at", "dealing"] (defScope s_Undone___init__) := ⟨rfl, rfl, rfl, by decide +kernel, rfl, by decide +kernel, by decide +kernel⟩
abbrev s_Taken___init__ : Stmt := inClass (topS 13) 0
theorem sc_Taken___init__ : FnScope ["self", "name"] ["self", "name"] (defScope s_Taken___init__) := ⟨rfl, rfl, rfl, by decide +kernel, rfl, by decide +kernel, by decide +kernel⟩
abbrev s_NoSlot___init__ : Stmt := inClass (topS 14) 0
theorem sc_NoSlot___init__ : FnScope ["self", "name"] ["self", "name"] (defScope s_NoSlot___init__) := ⟨rfl, rfl, rfl, by decide +kernel, rfl, by decide +kernel, by decide +kernel⟩
abbrev s_NoReader___init__ : Stmt := inClass (topS 15) 0
theorem sc_NoReader___init__ : FnScope ["self", "reader"] ["self", "reader"] (defScope s_NoReader___init__) := ⟨rfl, rfl, rfl, by decide +kernel, rfl, by decide +kernel, by decide +kernel⟩
abbrev s_l_cell_at : Stmt := topS 18
theorem sc_l_cell_at : FnScope ["script", "k"] ["script", "k"] (defScope s_l_cell_at) := ⟨rfl, rfl, rfl, by decide +kernel, rfl, by decide +kernel, by decide +kernel⟩
abbrev s_l_stir : Stmt := topS 19
theorem sc_l_stir : FnScope ["seed", "turn", "number"] ["seed", "turn"] (defScope s_l_stir) := ⟨rfl, rfl, rfl, by decide +kernel, rfl, by decide +kernel, by decide +kernel⟩
abbrev s_l_well : Stmt := topS 20
theorem sc_l_well : FnScope ["cell", "k", "seed"] ["cell", "k"] (defScope s_l_well) := ⟨rfl, rfl, rfl, by decide +kernel, rfl, by decide +kernel, by decide +kernel⟩
abbrev s_l_draw : Stmt := topS 21
theorem sc_l_draw : FnScope ["well", "many", "taken"] ["well", "many"] (defScope s_l_draw) := ⟨rfl, rfl, rfl, by decide +kernel, rfl, by decide +kernel, by decide +kernel⟩
abbrev s_l_thing : Stmt := topS 22
theorem sc_l_thing : FnScope ["well", "number"] ["well"] (defScope s_l_thing) := ⟨rfl, rfl, rfl, by decide +kernel, rfl, by decide +kernel, by decide +kernel⟩
abbrev s_l_same : Stmt := topS 23
theorem sc_l_same : FnScope ["found", "due"] ["found", "due"] (defScope s_l_same) := ⟨rfl, rfl, rfl, by decide +kernel, rfl, by decide +kernel, by decide +kernel⟩
abbrev s_l_of : Stmt := topS 24
theorem sc_l_of : FnScope ["made", "which", "found", "k"] ["made", "which"] (defScope s_l_of) := ⟨rfl, rfl, rfl, by decide +kernel, rfl, by decide +kernel, by decide +kernel⟩
abbrev s_l_plain : Stmt := topS 25
theorem sc_l_plain : FnScope ["which"] ["which"] (defScope s_l_plain) := ⟨rfl, rfl, rfl, by decide +kernel, rfl, by decide +kernel, by decide +kernel⟩
abbrev s_l_with_one : Stmt := topS 26
theorem sc_l_with_one : FnScope ["which", "one", "key", "dealing", "such", "taken", "slot", "reader", "round_of"] ["which", "one"] (defScope s_l_with_one) := ⟨rfl, rfl, rfl, by decide +kernel, rfl, by decide +kernel, by decide +kernel⟩
abbrev s_l_with_two : Stmt := topS 27
theorem sc_l_with_two : FnScope ["which", "one", "other", "clash", "late", "undone"] ["which", "one", "other"] (defScope s_l_with_two) := ⟨rfl, rfl, rfl, by decide +kernel, rfl, by decide +kernel, by decide +kernel⟩
abbrev s_law : Stmt := topS 28
theorem sc_law : FnScope ["script", "k", "well", "which", "one", "other"] ["script"] (defScope s_law) := ⟨rfl, rfl, rfl, by decide +kernel, rfl, by decide +kernel, by decide +kernel⟩
structure Tx (K : PySem.W.Frag) (mg : Str → Option Value) : Prop where
  F_NoKey___init__ : ∃ fd, FunD K "__init__" "NoKey.__init__" (defArgs s_NoKey___init__) (defBody s_NoKey___init__) (defScope s_NoKey___init__) [] [] (He.ma K (He.ga K "NoKey") "__init__") fd
  F_NoDealing___init__ : ∃ fd, FunD K "__init__" "NoDealing.__init__" (defArgs s_NoDealing___init__) (defBody s_NoDealing___init__) (defScope s_NoDealing___init__) [] [] (He.ma K (He.ga K "NoDealing") "__init__") fd
  F_Clash___init__ : ∃ fd, FunD K "__init__" "Clash.__init__" (defArgs s_Clash___init__) (defBody s_Clash___init__) (defScope s_Clash___init__) [] [] (He.ma K (He.ga K "Clash") "__init__") fd
  F_Late___init__ : ∃ fd, FunD K "__init__" "Late.__init__" (defArgs s_Late___init__) (defBody s_Late___init__) (defScope s_Late___init__) [] [] (He.ma K (He.ga K "Late") "__init__") fd
  F_NoSuch___init__ : ∃ fd, FunD K "__init__" "NoSuch.__init__" (defArgs s_NoSuch___init__) (defBody s_NoSuch___init__) (defScope s_NoSuch___init__) [] [] (He.ma K (He.ga K "NoSuch") "__init__") fd
  F_Ring___init__ : ∃ fd, FunD K "__init__" "Ring.__init__" (defArgs s_Ring___init__) (defBody s_Ring___init__) (defScope s_Ring___init__) [] [] (He.ma K (He.ga K "Ring") "__init__") fd
  F_Undone___init__ : ∃ fd, FunD K "__init__" "Undone.__init__" (defArgs s_Undone___init__) (defBody s_Undone___init__) (defScope s_Undone___init__) [] [] (He.ma K (He.ga K "Undone") "__init__") fd
  F_Taken___init__ : ∃ fd, FunD K "__init__" "Taken.__init__" (defArgs s_Taken___init__) (defBody s_Taken___init__) (defScope s_Taken___init__) [] [] (He.ma K (He.ga K "Taken") "__init__") fd
  F_NoSlot___init__ : ∃ fd, FunD K "__init__" "NoSlot.__init__" (defArgs s_NoSlot___init__) (defBody s_NoSlot___init__) (defScope s_NoSlot___init__) [] [] (He.ma K (He.ga K "NoSlot") "__init__") fd
  F_NoReader___init__ : ∃ fd, FunD K "__init__" "NoReader.__init__" (defArgs s_NoReader___init__) (defBody s_NoReader___init__) (defScope s_NoReader___init__) [] [] (He.ma K (He.ga K "NoReader") "__init__") fd
  F_l_cell_at : ∃ fd, FunD K "_law_cell_at" "_law_cell_at" (defArgs s_l_cell_at) (defBody s_l_cell_at) (defScope s_l_cell_at) [] [] (He.ga K "_law_cell_at") fd
  g_l_cell_at : mg "_law_cell_at" = some (.ref (He.ga K "_law_cell_at"))
  F_l_stir : ∃ fd, FunD K "_law_stir" "_law_stir" (defArgs s_l_stir) (defBody s_l_stir) (defScope s_l_stir) [] [] (He.ga K "_law_stir") fd
  g_l_stir : mg "_law_stir" = some (.ref (He.ga K "_law_stir"))
  F_l_well : ∃ fd, FunD K "_law_well" "_law_well" (defArgs s_l_well) (defBody s_l_well) (defScope s_l_well) [] [] (He.ga K "_law_well") fd
  g_l_well : mg "_law_well" = some (.ref (He.ga K "_law_well"))
  F_l_draw : ∃ fd, FunD K "_law_draw" "_law_draw" (defArgs s_l_draw) (defBody s_l_draw) (defScope s_l_draw) [] [] (He.ga K "_law_draw") fd
  g_l_draw : mg "_law_draw" = some (.ref (He.ga K "_law_draw"))
  F_l_thing : ∃ fd, FunD K "_law_thing" "_law_thing" (defArgs s_l_thing) (defBody s_l_thing) (defScope s_l_thing) [] [] (He.ga K "_law_thing") fd
  g_l_thing : mg "_law_thing" = some (.ref (He.ga K "_law_thing"))
  F_l_same : ∃ fd, FunD K "_law_same" "_law_same" (defArgs s_l_same) (defBody s_l_same) (defScope s_l_same) [] [] (He.ga K "_law_same") fd
  g_l_same : mg "_law_same" = some (.ref (He.ga K "_law_same"))
  F_l_of : ∃ fd, FunD K "_law_of" "_law_of" (defArgs s_l_of) (defBody s_l_of) (defScope s_l_of) [] [] (He.ga K "_law_of") fd
  g_l_of : mg "_law_of" = some (.ref (He.ga K "_law_of"))
  F_l_plain : ∃ fd, FunD K "_law_plain" "_law_plain" (defArgs s_l_plain) (defBody s_l_plain) (defScope s_l_plain) [] [] (He.ga K "_law_plain") fd
  g_l_plain : mg "_law_plain" = some (.ref (He.ga K "_law_plain"))
  F_l_with_one : ∃ fd, FunD K "_law_with_one" "_law_with_one" (defArgs s_l_with_one) (defBody s_l_with_one) (defScope s_l_with_one) [] [] (He.ga K "_law_with_one") fd
  g_l_with_one : mg "_law_with_one" = some (.ref (He.ga K "_law_with_one"))
  F_l_with_two : ∃ fd, FunD K "_law_with_two" "_law_with_two" (defArgs s_l_with_two) (defBody s_l_with_two) (defScope s_l_with_two) [] [] (He.ga K "_law_with_two") fd
  g_l_with_two : mg "_law_with_two" = some (.ref (He.ga K "_law_with_two"))
  F_law : ∃ fd, FunD K "law" "law" (defArgs s_law) (defBody s_law) (defScope s_law) [] [] (He.ga K "law") fd
  g_law : mg "law" = some (.ref (He.ga K "law"))
  g_HouseError : mg "HouseError" = some (.ref (He.ga K "HouseError"))
  xk_HouseError : XCls K (He.ga K "HouseError")
  xp_HouseError : PySem.W.excIn K (He.ga K "HouseError") He.veBase "ValueError.__new__" = true ∧ PySem.W.keepIn K (.ref (He.ga K "HouseError")) = true ∧ PySem.W.subIn K (.ref (He.ga K "HouseError")) (.type "BaseException") = some true ∧ PySem.W.typeIn K (.ref (He.ga K "HouseError")) = some (.type "type")
  g_NoKey : mg "NoKey" = some (.ref (He.ga K "NoKey"))
  xk_NoKey : XCls K (He.ga K "NoKey")
  xt_NoKey : PySem.W.typeIn K (.ref (He.ma K (He.ga K "NoKey") "__init__")) = some (.type "function")
  na_NoKey_key : NoAttr K (He.ga K "NoKey") "key"
  me_NoKey___init__ : Meth K (He.ga K "NoKey") "__init__" (He.ma K (He.ga K "NoKey") "__init__")
  g_NoWorth : mg "NoWorth" = some (.ref (He.ga K "NoWorth"))
  xk_NoWorth : XCls K (He.ga K "NoWorth")
  xp_NoWorth : PySem.W.excIn K (He.ga K "NoWorth") He.veBase "ValueError.__new__" = true ∧ PySem.W.keepIn K (.ref (He.ga K "NoWorth")) = true ∧ PySem.W.subIn K (.ref (He.ga K "NoWorth")) (.type "BaseException") = some true ∧ PySem.W.typeIn K (.ref (He.ga K "NoWorth")) = some (.type "type")
  g_NoText : mg "NoText" = some (.ref (He.ga K "NoText"))
  xk_NoText : XCls K (He.ga K "NoText")
  xp_NoText : PySem.W.excIn K (He.ga K "NoText") He.veBase "ValueError.__new__" = true ∧ PySem.W.keepIn K (.ref (He.ga K "NoText")) = true ∧ PySem.W.subIn K (.ref (He.ga K "NoText")) (.type "BaseException") = some true ∧ PySem.W.typeIn K (.ref (He.ga K "NoText")) = some (.type "type")
  g_NoLevel : mg "NoLevel" = some (.ref (He.ga K "NoLevel"))
  xk_NoLevel : XCls K (He.ga K "NoLevel")
  xp_NoLevel : PySem.W.excIn K (He.ga K "NoLevel") He.veBase "ValueError.__new__" = true ∧ PySem.W.keepIn K (.ref (He.ga K "NoLevel")) = true ∧ PySem.W.subIn K (.ref (He.ga K "NoLevel")) (.type "BaseException") = some true ∧ PySem.W.typeIn K (.ref (He.ga K "NoLevel")) = some (.type "type")
  g_NoDealing : mg "NoDealing" = some (.ref (He.ga K "NoDealing"))
  xk_NoDealing : XCls K (He.ga K "NoDealing")
  xt_NoDealing : PySem.W.typeIn K (.ref (He.ma K (He.ga K "NoDealing") "__init__")) = some (.type "function")
  na_NoDealing_dealing : NoAttr K (He.ga K "NoDealing") "dealing"
  me_NoDealing___init__ : Meth K (He.ga K "NoDealing") "__init__" (He.ma K (He.ga K "NoDealing") "__init__")
  g_Clash : mg "Clash" = some (.ref (He.ga K "Clash"))
  xk_Clash : XCls K (He.ga K "Clash")
  xt_Clash : PySem.W.typeIn K (.ref (He.ma K (He.ga K "Clash") "__init__")) = some (.type "function")
  na_Clash_key : NoAttr K (He.ga K "Clash") "key"
  na_Clash_dealing : NoAttr K (He.ga K "Clash") "dealing"
  me_Clash___init__ : Meth K (He.ga K "Clash") "__init__" (He.ma K (He.ga K "Clash") "__init__")
  g_Late : mg "Late" = some (.ref (He.ga K "Late"))
  xk_Late : XCls K (He.ga K "Late")
  xt_Late : PySem.W.typeIn K (.ref (He.ma K (He.ga K "Late") "__init__")) = some (.type "function")
  na_Late_key : NoAttr K (He.ga K "Late") "key"
  na_Late_dealing : NoAttr K (He.ga K "Late") "dealing"
  me_Late___init__ : Meth K (He.ga K "Late") "__init__" (He.ma K (He.ga K "Late") "__init__")
  g_NoSuch : mg "NoSuch" = some (.ref (He.ga K "NoSuch"))
  xk_NoSuch : XCls K (He.ga K "NoSuch")
  xt_NoSuch : PySem.W.typeIn K (.ref (He.ma K (He.ga K "NoSuch") "__init__")) = some (.type "function")
  na_NoSuch_key : NoAttr K (He.ga K "NoSuch") "key"
  me_NoSuch___init__ : Meth K (He.ga K "NoSuch") "__init__" (He.ma K (He.ga K "NoSuch") "__init__")
  g_Ring : mg "Ring" = some (.ref (He.ga K "Ring"))
  xk_Ring : XCls K (He.ga K "Ring")
  xt_Ring : PySem.W.typeIn K (.ref (He.ma K (He.ga K "Ring") "__init__")) = some (.type "function")
  na_Ring_dealings : NoAttr K (He.ga K "Ring") "dealings"
  me_Ring___init__ : Meth K (He.ga K "Ring") "__init__" (He.ma K (He.ga K "Ring") "__init__")
  g_Undone : mg "Undone" = some (.ref (He.ga K "Undone"))
  xk_Undone : XCls K (He.ga K "Undone")
  xt_Undone : PySem.W.typeIn K (.ref (He.ma K (He.ga K "Undone") "__init__")) = some (.type "function")
  na_Undone_at : NoAttr K (He.ga K "Undone") "at"
  na_Undone_dealing : NoAttr K (He.ga K "Undone") "dealing"
  me_Undone___init__ : Meth K (He.ga K "Undone") "__init__" (He.ma K (He.ga K "Undone") "__init__")
  g_NoPage : mg "NoPage" = some (.ref (He.ga K "NoPage"))
  xk_NoPage : XCls K (He.ga K "NoPage")
  xp_NoPage : PySem.W.excIn K (He.ga K "NoPage") He.veBase "ValueError.__new__" = true ∧ PySem.W.keepIn K (.ref (He.ga K "NoPage")) = true ∧ PySem.W.subIn K (.ref (He.ga K "NoPage")) (.type "BaseException") = some true ∧ PySem.W.typeIn K (.ref (He.ga K "NoPage")) = some (.type "type")
  g_Taken : mg "Taken" = some (.ref (He.ga K "Taken"))
  xk_Taken : XCls K (He.ga K "Taken")
  xt_Taken : PySem.W.typeIn K (.ref (He.ma K (He.ga K "Taken") "__init__")) = some (.type "function")
  na_Taken_name : NoAttr K (He.ga K "Taken") "name"
  me_Taken___init__ : Meth K (He.ga K "Taken") "__init__" (He.ma K (He.ga K "Taken") "__init__")
  g_NoSlot : mg "NoSlot" = some (.ref (He.ga K "NoSlot"))
  xk_NoSlot : XCls K (He.ga K "NoSlot")
  xt_NoSlot : PySem.W.typeIn K (.ref (He.ma K (He.ga K "NoSlot") "__init__")) = some (.type "function")
  na_NoSlot_name : NoAttr K (He.ga K "NoSlot") "name"
  me_NoSlot___init__ : Meth K (He.ga K "NoSlot") "__init__" (He.ma K (He.ga K "NoSlot") "__init__")
  g_NoReader : mg "NoReader" = some (.ref (He.ga K "NoReader"))
  xk_NoReader : XCls K (He.ga K "NoReader")
  xt_NoReader : PySem.W.typeIn K (.ref (He.ma K (He.ga K "NoReader") "__init__")) = some (.type "function")
  na_NoReader_reader : NoAttr K (He.ga K "NoReader") "reader"
  me_NoReader___init__ : Meth K (He.ga K "NoReader") "__init__" (He.ma K (He.ga K "NoReader") "__init__")
  g_Left : mg "Left" = some (.ref (He.ga K "Left"))
  xk_Left : XCls K (He.ga K "Left")
  xp_Left : PySem.W.excIn K (He.ga K "Left") He.veBase "ValueError.__new__" = true ∧ PySem.W.keepIn K (.ref (He.ga K "Left")) = true ∧ PySem.W.subIn K (.ref (He.ga K "Left")) (.type "BaseException") = some true ∧ PySem.W.typeIn K (.ref (He.ga K "Left")) = some (.type "type")
  xis : XIs K ["NoKey", "NoWorth", "NoText", "NoLevel", "NoDealing", "Clash", "Late", "NoSuch", "Ring", "Undone", "NoPage", "Taken", "NoSlot", "NoReader", "Left"] "HouseError"
  n_ValueError : mg "ValueError" = none
  n_bool : mg "bool" = none
  n_isinstance : mg "isinstance" = none
  n_len : mg "len" = none
  n_max : mg "max" = none
  n_min : mg "min" = none
  n_range : mg "range" = none

def φ_stir : Ph := fun B vs L k => ∃ s t : Int, vs = [.int s, .int t] ∧ L = [] ∧ 0 ≤ s ∧ s < 2 ^ 200 ∧ 0 ≤ t ∧ t ≤ 2 ^ 101 ∧ ∀ c : Int, 0 ≤ c → k B (.int c) []
theorem fn_l_stir (T : Tx K mg) (fd : FuncData) (F : FunD K "_law_stir" "_law_stir" (defArgs s_l_stir) (defBody s_l_stir) (defScope s_l_stir) [] [] (He.ga K "_law_stir") fd) : FnOk P w K mg base CX0 1 (He.ga K "_law_stir") fd ["seed", "turn"] (spY φ_stir) := by
  refine fnM F sc_l_stir (fun B vs L k h => by obtain ⟨_, _, rfl, _⟩ := h; rfl) (fun cdv A outer s H vs Q E B L e hz he hr S h => ?_)
  obtain ⟨s0, t0, rfl, rfl, h1, h2, h3, h4, k⟩ := h
  refine ⟨_, (pss_cons (ps_set (i := 2) sc_l_stir.nd rfl (.inl rfl) (pe_op (op_addU (K := K) rfl) (pe_op op_mulZ (pe_op (op_addU (K := K) rfl) (pv 0) pe_int) pe_int) (pe_op op_mulZ (pe_op (op_addU (K := K) rfl) (pv 1) pe_int) pe_int)))
      (pss_one (ps_ret (pe_op op_modU (pe_op op_powU (pv 2) pe_int) pe_int)))), ?_⟩
  walk_at "yn"
  refine y_mulW (a := 201) (b := 100) (by omega) (by decide) (by decide) (by decide) (by decide) ?_
  walk_at "yn"
  refine y_mulW (a := 102) (b := 100) (by omega) (by decide) (by decide) (by decide) (by decide) ?_
  walk_at "yn"
  refine y_powI (pow_ok (b := 400) (by omega) (by decide) (by decide) (by decide) (by decide)) ?_
  walk_at "yn"
  exact k _ (Int.emod_nonneg _ (by decide)) _ S
theorem ok_l_stir (T : Tx K mg) : Ok P w K mg base 1 "_law_stir" ["seed", "turn"] (spY φ_stir) :=
  Ok.of T.F_l_stir T.g_l_stir (fun _ _ _ _ _ _ us hl => match us, hl with | [_, _], _ => rfl) (fn_l_stir T)
theorem y_stir {e : En} {B H : Hp} {L : Led} {Q : VK} {E : XK} {s t : Int} (S : Sy e B H L) (h1 : 0 ≤ s) (h2 : s < 2 ^ 200) (h3 : 0 ≤ t) (h4 : t ≤ 2 ^ 101) (k : ∀ c H', 0 ≤ c → Sy e B H' L → Q (.int c) H') : spY φ_stir [.int s, .int t] H Q E :=
  y_sp0 S ⟨s, t, rfl, rfl, h1, h2, h3, h4, fun c hc => fun H' S' => k c H' hc (S.back0 S')⟩
theorem fn_l_draw (T : Tx K mg) (fd : FuncData) (F : FunD K "_law_draw" "_law_draw" (defArgs s_l_draw) (defBody s_l_draw) (defScope s_l_draw) [] [] (He.ga K "_law_draw") fd) : FnOk P w K mg base CX0 2 (He.ga K "_law_draw") fd ["well", "many"] (spY φ_draw) := by
  refine fnM F sc_l_draw (fun B vs L k h => by obtain ⟨_, _, _, _, rfl, _⟩ := h; rfl) (fun cdv A outer s H vs Q E B L e hz he hr S h => ?_)
  obtain ⟨b, o, many, n, rfl, rfl, ⟨x, y, z, rfl, h1, h2, h3, h4⟩, h5, h6, k⟩ := h
  refine ⟨_, (pss_cons (ps_if (pt_cmpR (op_eqZ (K := K) rfl hr.units) (pe_ix (ix_U (K := K) rfl (hu_of hr)) (pv 0) pe_int (fun _ _ => rfl)) pe_int (nomark _))
      (pss_cons (ps_asg (pe_op (op_addU (K := K) rfl) (pe_ix (ix_U (K := K) rfl (hu_of hr)) (pv 0) pe_int (fun _ _ => rfl)) pe_int) (pg_sub (pv 0) pe_int (set_U (hu_of hr))))
      (pss_one (ps_asg (pe_callO (ok_l_stir (K := K) T) hr (by rfl) (pa_cons (pe_ix (ix_U (K := K) rfl (hu_of hr)) (pv 0) pe_int (fun _ _ => rfl)) (pa_cons (pe_ix (ix_U (K := K) rfl (hu_of hr)) (pv 0) pe_int (fun _ _ => rfl)) pa_nil))) (pg_sub (pv 0) pe_int (set_U (hu_of hr))))))
      pss_nil)
      (pss_cons (ps_set (i := 2) sc_l_draw.nd rfl (.inl rfl) (pe_op op_modU (pe_ix (ix_U (K := K) rfl (hu_of hr)) (pv 0) pe_int (fun _ _ => rfl)) (pv 1)))
      (pss_cons (ps_asg (pe_op op_divU (pe_ix (ix_U (K := K) rfl (hu_of hr)) (pv 0) pe_int (fun _ _ => rfl)) (pv 1)) (pg_sub (pv 0) pe_int (set_U (hu_of hr))))
      (pss_one (ps_ret (pv 2)))))), ?_⟩
  walk_at "yn"
  walk_at "yy"
  refine y_ite (fun hc => ?_) (fun hc => ?_)
  · walk_at "yn"
    refine y_setL0 S rfl fun H S => ?_
    walk_at "yn"
    refine y_stir S h1 h2 (by omega) (by omega) fun c H hc S => ?_
    walk_at "yn"
    refine y_setL0 S rfl fun H S => ?_
    walk_at "yn"
    refine y_divI (wide_div h5 (b := 100) (by omega) (by decide) (by decide)) ?_
    walk_at "yn"
    refine y_setL0 S rfl fun H S => ?_
    walk_at "yn"
    exact k _ _ (Int.emod_nonneg _ (by omega)) (Int.emod_lt_of_pos _ h5) ⟨_, _, _, rfl, h1, h2, by omega, by omega⟩ _ S
  · walk_at "yn"
    refine y_divI (wide_div h5 (b := 100) (by omega) (by decide) (by decide)) ?_
    walk_at "yn"
    refine y_setL0 S rfl fun H S => ?_
    walk_at "yn"
    exact k _ _ (Int.emod_nonneg _ (by omega)) (Int.emod_lt_of_pos _ h5) ⟨_, _, _, rfl, h1, h2, by omega, by omega⟩ _ S
theorem ok_l_draw (T : Tx K mg) : Ok P w K mg base 2 "_law_draw" ["well", "many"] (spY φ_draw) :=
  Ok.of T.F_l_draw T.g_l_draw (fun _ _ _ _ _ _ us hl => match us, hl with | [_, _], _ => rfl) (fn_l_draw T)
theorem fn_l_cell_at (T : Tx K mg) (fd : FuncData) (F : FunD K "_law_cell_at" "_law_cell_at" (defArgs s_l_cell_at) (defBody s_l_cell_at) (defScope s_l_cell_at) [] [] (He.ga K "_law_cell_at") fd) : FnOk P w K mg base CX0 1 (He.ga K "_law_cell_at") fd ["script", "k"] (spY (φ_cell K)) := by
  refine fnM F sc_l_cell_at (fun B vs L k h => by obtain ⟨_, _, _, rfl, _⟩ := h; rfl) (fun cdv A outer s H vs Q E B L e hz he hr S h => ?_)
  obtain ⟨a, ns, i, rfl, rfl, hq, hi, k⟩ := h
  refine ⟨_, (pss_cons (ps_if (pt_cmpR op_ltU (pv 1) (pe_callB (call_lenU (K := K) rfl) (by rfl) T.n_len (by decide +kernel) (pa_cons (pv 0) pa_nil)) (nomark _))
      (pss_one (ps_ret (pe_ix (ix_U (K := K) rfl (hu_of hr)) (pv 0) (pv 1) (fun _ _ => rfl))))
      pss_nil)
      (pss_one (ps_ret pe_int))), ?_⟩
  walk_at "yn"
  walk_at "yy"
  refine y_ite (fun hc => ?_) (fun hc => ?_)
  · walk_at "yn"
    rw [List.length_map] at hc
    have h2 : i.toNat < ns.length := by omega
    exact y_ixL (S.l hq) (v := .int ns[i.toNat]) (atI_of hi (by simp [h2])) (k _ _ S)
  · walk_at "yn"
    exact k _ _ S
theorem ok_l_cell_at (T : Tx K mg) : Ok P w K mg base 1 "_law_cell_at" ["script", "k"] (spY (φ_cell K)) :=
  Ok.of T.F_l_cell_at T.g_l_cell_at (fun _ _ _ _ _ _ us hl => match us, hl with | [_, _], _ => rfl) (fn_l_cell_at T)
theorem fn_l_well (T : Tx K mg) (fd : FuncData) (F : FunD K "_law_well" "_law_well" (defArgs s_l_well) (defBody s_l_well) (defScope s_l_well) [] [] (He.ga K "_law_well") fd) : FnOk P w K mg base CX0 2 (He.ga K "_law_well") fd ["cell", "k"] (spY φ_bag) := by
  refine fnM F sc_l_well (fun B vs L k h => by obtain ⟨_, _, rfl, _⟩ := h; rfl) (fun cdv A outer s H vs Q E B L e hz he hr S h => ?_)
  obtain ⟨c, p, rfl, rfl, h0, h1, k⟩ := h
  refine ⟨_, (pss_cons (ps_set (i := 2) sc_l_well.nd rfl (.inl rfl) (pe_op (op_addU (K := K) rfl) (pe_op op_mulZ (pe_op op_modU (pv 0) pe_int) pe_int) (pv 1)))
      (pss_cons (ps_if (pt_cmpR op_geU (pv 0) (pe_op op_powU pe_int pe_int) (nomark _))
      (pss_one (ps_ret (pe_lst (pa_cons (pe_op op_subU (pv 0) (pe_op op_powU pe_int pe_int)) (pa_cons (pv 2) (pa_cons pe_int pa_nil))))))
      pss_nil)
      (pss_one (ps_ret (pe_lst (pa_cons (pe_callO (ok_l_stir (K := K) T) hr (by rfl) (pa_cons (pv 2) (pa_cons pe_int pa_nil))) (pa_cons (pv 2) (pa_cons pe_int pa_nil)))))))), ?_⟩
  walk_at "yn"
  have m1 := Int.emod_nonneg c (b := 7730990200000000000000000000000000000000229) (by decide)
  have m2 := Int.emod_lt_of_pos c (b := 7730990200000000000000000000000000000000229) (by decide)
  walk_at "yy"
  refine y_powI (pow_ok (b := 4) (by decide) (by decide) (by decide) (by decide) (by decide)) ?_
  walk_at "yy"
  refine y_ite (fun hc => ?_) (fun hc => ?_)
  · walk_at "yn"
    refine y_powI (pow_ok (b := 4) (by decide) (by decide) (by decide) (by decide) (by decide)) ?_
    walk_at "yn"
    refine y_newM S fun q H h2 S => ?_
    walk_at "yn"
    exact k _ _ ⟨_, _, _, rfl, by omega, by omega, by omega, by omega⟩ _ S
  · walk_at "yn"
    refine y_stir S (by omega) (by omega) (by omega) (by omega) fun c H hc S => ?_
    walk_at "yn"
    refine y_newM S fun q H h2 S => ?_
    walk_at "yn"
    exact k _ _ ⟨_, _, _, rfl, by omega, by omega, by omega, by omega⟩ _ S
theorem ok_l_well (T : Tx K mg) : Ok P w K mg base 2 "_law_well" ["cell", "k"] (spY φ_bag) :=
  Ok.of T.F_l_well T.g_l_well (fun _ _ _ _ _ _ us hl => match us, hl with | [_, _], _ => rfl) (fn_l_well T)

abbrev gf_NoKey : List V → List (Str × V) := (fun ws => [("key", ws.getD 0 .non)])
theorem fn_NoKey___init__ (T : Tx K mg) (fd : FuncData) (F : FunD K "__init__" "NoKey.__init__" (defArgs s_NoKey___init__) (defBody s_NoKey___init__) (defScope s_NoKey___init__) [] [] (He.ma K (He.ga K "NoKey") "__init__") fd) : FnOk P w K mg base CX0 1 (He.ma K (He.ga K "NoKey") "__init__") fd ["self", "key"] (spX (He.ga K "NoKey") 1 gf_NoKey) := by
  refine F.ok sc_NoKey___init__ (fun vs H Q E h => by obtain ⟨a, ws, rfl, hl, _⟩ := h; simp [hl]) (fun cdv A outer s H vs Q E hr h => ?_)
  obtain ⟨a, ws, rfl, hl, h1, k⟩ := h
  match ws, hl with
  | [y0], _ =>
    refine ⟨_, PSs.nox (pss_one (ps_ost (pv 0) (pv 1))), ?_⟩
    walk_at "yn"
    refine ⟨a, _, rfl, T.xk_NoKey.o, T.na_NoKey_key, .inl ⟨h1, fun dx hd hne => ?_⟩⟩
    walk_at "yn"
    exact k dx hd hne
theorem okx_NoKey (T : Tx K mg) : OkX P w K mg base (He.ga K "NoKey") 1 "NoKey" ["self", "key"] (spX (He.ga K "NoKey") 1 gf_NoKey) :=
  OkM.mkX (OkM.of T.F_NoKey___init__ T.me_NoKey___init__ (fun _ _ _ _ _ _ us hl => match us, hl with | [_, _], _ => rfl) (fn_NoKey___init__ T)) T.xk_NoKey.o T.me_NoKey___init__ T.xt_NoKey T.g_NoKey
abbrev gf_NoDealing : List V → List (Str × V) := (fun ws => [("dealing", ws.getD 0 .non)])
theorem fn_NoDealing___init__ (T : Tx K mg) (fd : FuncData) (F : FunD K "__init__" "NoDealing.__init__" (defArgs s_NoDealing___init__) (defBody s_NoDealing___init__) (defScope s_NoDealing___init__) [] [] (He.ma K (He.ga K "NoDealing") "__init__") fd) : FnOk P w K mg base CX0 1 (He.ma K (He.ga K "NoDealing") "__init__") fd ["self", "dealing"] (spX (He.ga K "NoDealing") 1 gf_NoDealing) := by
  refine F.ok sc_NoDealing___init__ (fun vs H Q E h => by obtain ⟨a, ws, rfl, hl, _⟩ := h; simp [hl]) (fun cdv A outer s H vs Q E hr h => ?_)
  obtain ⟨a, ws, rfl, hl, h1, k⟩ := h
  match ws, hl with
  | [y0], _ =>
    refine ⟨_, PSs.nox (pss_one (ps_ost (pv 0) (pv 1))), ?_⟩
    walk_at "yn"
    refine ⟨a, _, rfl, T.xk_NoDealing.o, T.na_NoDealing_dealing, .inl ⟨h1, fun dx hd hne => ?_⟩⟩
    walk_at "yn"
    exact k dx hd hne
theorem okx_NoDealing (T : Tx K mg) : OkX P w K mg base (He.ga K "NoDealing") 1 "NoDealing" ["self", "dealing"] (spX (He.ga K "NoDealing") 1 gf_NoDealing) :=
  OkM.mkX (OkM.of T.F_NoDealing___init__ T.me_NoDealing___init__ (fun _ _ _ _ _ _ us hl => match us, hl with | [_, _], _ => rfl) (fn_NoDealing___init__ T)) T.xk_NoDealing.o T.me_NoDealing___init__ T.xt_NoDealing T.g_NoDealing
abbrev gf_Clash : List V → List (Str × V) := (fun ws => [("dealing", ws.getD 1 .non), ("key", ws.getD 0 .non)])
theorem fn_Clash___init__ (T : Tx K mg) (fd : FuncData) (F : FunD K "__init__" "Clash.__init__" (defArgs s_Clash___init__) (defBody s_Clash___init__) (defScope s_Clash___init__) [] [] (He.ma K (He.ga K "Clash") "__init__") fd) : FnOk P w K mg base CX0 1 (He.ma K (He.ga K "Clash") "__init__") fd ["self", "key", "dealing"] (spX (He.ga K "Clash") 2 gf_Clash) := by
  refine F.ok sc_Clash___init__ (fun vs H Q E h => by obtain ⟨a, ws, rfl, hl, _⟩ := h; simp [hl]) (fun cdv A outer s H vs Q E hr h => ?_)
  obtain ⟨a, ws, rfl, hl, h1, k⟩ := h
  match ws, hl with
  | [y0, y1], _ =>
    refine ⟨_, PSs.nox (pss_cons (ps_ost (pv 0) (pv 1))
      (pss_one (ps_ost (pv 0) (pv 2)))), ?_⟩
    walk_at "yn"
    refine ⟨a, _, rfl, T.xk_Clash.o, T.na_Clash_key, .inl ⟨h1, fun dx hd hne => ?_⟩⟩
    walk_at "yn"
    refine ⟨a, _, rfl, T.xk_Clash.o, T.na_Clash_dealing, .inr ⟨dx, _, upd_same, (by rw [upd_ne hne, upd_same]), by simp, ?_⟩⟩
    rw [upd2 hne]
    walk_at "yn"
    exact k dx hd hne
theorem okx_Clash (T : Tx K mg) : OkX P w K mg base (He.ga K "Clash") 1 "Clash" ["self", "key", "dealing"] (spX (He.ga K "Clash") 2 gf_Clash) :=
  OkM.mkX (OkM.of T.F_Clash___init__ T.me_Clash___init__ (fun _ _ _ _ _ _ us hl => match us, hl with | [_, _, _], _ => rfl) (fn_Clash___init__ T)) T.xk_Clash.o T.me_Clash___init__ T.xt_Clash T.g_Clash
abbrev gf_Late : List V → List (Str × V) := (fun ws => [("dealing", ws.getD 1 .non), ("key", ws.getD 0 .non)])
theorem fn_Late___init__ (T : Tx K mg) (fd : FuncData) (F : FunD K "__init__" "Late.__init__" (defArgs s_Late___init__) (defBody s_Late___init__) (defScope s_Late___init__) [] [] (He.ma K (He.ga K "Late") "__init__") fd) : FnOk P w K mg base CX0 1 (He.ma K (He.ga K "Late") "__init__") fd ["self", "key", "dealing"] (spX (He.ga K "Late") 2 gf_Late) := by
  refine F.ok sc_Late___init__ (fun vs H Q E h => by obtain ⟨a, ws, rfl, hl, _⟩ := h; simp [hl]) (fun cdv A outer s H vs Q E hr h => ?_)
  obtain ⟨a, ws, rfl, hl, h1, k⟩ := h
  match ws, hl with
  | [y0, y1], _ =>
    refine ⟨_, PSs.nox (pss_cons (ps_ost (pv 0) (pv 1))
      (pss_one (ps_ost (pv 0) (pv 2)))), ?_⟩
    walk_at "yn"
    refine ⟨a, _, rfl, T.xk_Late.o, T.na_Late_key, .inl ⟨h1, fun dx hd hne => ?_⟩⟩
    walk_at "yn"
    refine ⟨a, _, rfl, T.xk_Late.o, T.na_Late_dealing, .inr ⟨dx, _, upd_same, (by rw [upd_ne hne, upd_same]), by simp, ?_⟩⟩
    rw [upd2 hne]
    walk_at "yn"
    exact k dx hd hne
theorem okx_Late (T : Tx K mg) : OkX P w K mg base (He.ga K "Late") 1 "Late" ["self", "key", "dealing"] (spX (He.ga K "Late") 2 gf_Late) :=
  OkM.mkX (OkM.of T.F_Late___init__ T.me_Late___init__ (fun _ _ _ _ _ _ us hl => match us, hl with | [_, _, _], _ => rfl) (fn_Late___init__ T)) T.xk_Late.o T.me_Late___init__ T.xt_Late T.g_Late
abbrev gf_NoSuch : List V → List (Str × V) := (fun ws => [("key", ws.getD 0 .non)])
theorem fn_NoSuch___init__ (T : Tx K mg) (fd : FuncData) (F : FunD K "__init__" "NoSuch.__init__" (defArgs s_NoSuch___init__) (defBody s_NoSuch___init__) (defScope s_NoSuch___init__) [] [] (He.ma K (He.ga K "NoSuch") "__init__") fd) : FnOk P w K mg base CX0 1 (He.ma K (He.ga K "NoSuch") "__init__") fd ["self", "key"] (spX (He.ga K "NoSuch") 1 gf_NoSuch) := by
  refine F.ok sc_NoSuch___init__ (fun vs H Q E h => by obtain ⟨a, ws, rfl, hl, _⟩ := h; simp [hl]) (fun cdv A outer s H vs Q E hr h => ?_)
  obtain ⟨a, ws, rfl, hl, h1, k⟩ := h
  match ws, hl with
  | [y0], _ =>
    refine ⟨_, PSs.nox (pss_one (ps_ost (pv 0) (pv 1))), ?_⟩
    walk_at "yn"
    refine ⟨a, _, rfl, T.xk_NoSuch.o, T.na_NoSuch_key, .inl ⟨h1, fun dx hd hne => ?_⟩⟩
    walk_at "yn"
    exact k dx hd hne
theorem okx_NoSuch (T : Tx K mg) : OkX P w K mg base (He.ga K "NoSuch") 1 "NoSuch" ["self", "key"] (spX (He.ga K "NoSuch") 1 gf_NoSuch) :=
  OkM.mkX (OkM.of T.F_NoSuch___init__ T.me_NoSuch___init__ (fun _ _ _ _ _ _ us hl => match us, hl with | [_, _], _ => rfl) (fn_NoSuch___init__ T)) T.xk_NoSuch.o T.me_NoSuch___init__ T.xt_NoSuch T.g_NoSuch
abbrev gf_Ring : List V → List (Str × V) := (fun ws => [("dealings", ws.getD 0 .non)])
theorem fn_Ring___init__ (T : Tx K mg) (fd : FuncData) (F : FunD K "__init__" "Ring.__init__" (defArgs s_Ring___init__) (defBody s_Ring___init__) (defScope s_Ring___init__) [] [] (He.ma K (He.ga K "Ring") "__init__") fd) : FnOk P w K mg base CX0 1 (He.ma K (He.ga K "Ring") "__init__") fd ["self", "dealings"] (spX (He.ga K "Ring") 1 gf_Ring) := by
  refine F.ok sc_Ring___init__ (fun vs H Q E h => by obtain ⟨a, ws, rfl, hl, _⟩ := h; simp [hl]) (fun cdv A outer s H vs Q E hr h => ?_)
  obtain ⟨a, ws, rfl, hl, h1, k⟩ := h
  match ws, hl with
  | [y0], _ =>
    refine ⟨_, PSs.nox (pss_one (ps_ost (pv 0) (pv 1))), ?_⟩
    walk_at "yn"
    refine ⟨a, _, rfl, T.xk_Ring.o, T.na_Ring_dealings, .inl ⟨h1, fun dx hd hne => ?_⟩⟩
    walk_at "yn"
    exact k dx hd hne
theorem okx_Ring (T : Tx K mg) : OkX P w K mg base (He.ga K "Ring") 1 "Ring" ["self", "dealings"] (spX (He.ga K "Ring") 1 gf_Ring) :=
  OkM.mkX (OkM.of T.F_Ring___init__ T.me_Ring___init__ (fun _ _ _ _ _ _ us hl => match us, hl with | [_, _], _ => rfl) (fn_Ring___init__ T)) T.xk_Ring.o T.me_Ring___init__ T.xt_Ring T.g_Ring
abbrev gf_Undone : List V → List (Str × V) := (fun ws => [("dealing", ws.getD 1 .non), ("at", ws.getD 0 .non)])
theorem fn_Undone___init__ (T : Tx K mg) (fd : FuncData) (F : FunD K "__init__" "Undone.__init__" (defArgs s_Undone___init__) (defBody s_Undone___init__) (defScope s_Undone___init__) [] [] (He.ma K (He.ga K "Undone") "__init__") fd) : FnOk P w K mg base CX0 1 (He.ma K (He.ga K "Undone") "__init__") fd ["self", "at", "dealing"] (spX (He.ga K "Undone") 2 gf_Undone) := by
  refine F.ok sc_Undone___init__ (fun vs H Q E h => by obtain ⟨a, ws, rfl, hl, _⟩ := h; simp [hl]) (fun cdv A outer s H vs Q E hr h => ?_)
  obtain ⟨a, ws, rfl, hl, h1, k⟩ := h
  match ws, hl with
  | [y0, y1], _ =>
    refine ⟨_, PSs.nox (pss_cons (ps_ost (pv 0) (pv 1))
      (pss_one (ps_ost (pv 0) (pv 2)))), ?_⟩
    walk_at "yn"
    refine ⟨a, _, rfl, T.xk_Undone.o, T.na_Undone_at, .inl ⟨h1, fun dx hd hne => ?_⟩⟩
    walk_at "yn"
    refine ⟨a, _, rfl, T.xk_Undone.o, T.na_Undone_dealing, .inr ⟨dx, _, upd_same, (by rw [upd_ne hne, upd_same]), by simp, ?_⟩⟩
    rw [upd2 hne]
    walk_at "yn"
    exact k dx hd hne
theorem okx_Undone (T : Tx K mg) : OkX P w K mg base (He.ga K "Undone") 1 "Undone" ["self", "at", "dealing"] (spX (He.ga K "Undone") 2 gf_Undone) :=
  OkM.mkX (OkM.of T.F_Undone___init__ T.me_Undone___init__ (fun _ _ _ _ _ _ us hl => match us, hl with | [_, _, _], _ => rfl) (fn_Undone___init__ T)) T.xk_Undone.o T.me_Undone___init__ T.xt_Undone T.g_Undone
abbrev gf_Taken : List V → List (Str × V) := (fun ws => [("name", ws.getD 0 .non)])
theorem fn_Taken___init__ (T : Tx K mg) (fd : FuncData) (F : FunD K "__init__" "Taken.__init__" (defArgs s_Taken___init__) (defBody s_Taken___init__) (defScope s_Taken___init__) [] [] (He.ma K (He.ga K "Taken") "__init__") fd) : FnOk P w K mg base CX0 1 (He.ma K (He.ga K "Taken") "__init__") fd ["self", "name"] (spX (He.ga K "Taken") 1 gf_Taken) := by
  refine F.ok sc_Taken___init__ (fun vs H Q E h => by obtain ⟨a, ws, rfl, hl, _⟩ := h; simp [hl]) (fun cdv A outer s H vs Q E hr h => ?_)
  obtain ⟨a, ws, rfl, hl, h1, k⟩ := h
  match ws, hl with
  | [y0], _ =>
    refine ⟨_, PSs.nox (pss_one (ps_ost (pv 0) (pv 1))), ?_⟩
    walk_at "yn"
    refine ⟨a, _, rfl, T.xk_Taken.o, T.na_Taken_name, .inl ⟨h1, fun dx hd hne => ?_⟩⟩
    walk_at "yn"
    exact k dx hd hne
theorem okx_Taken (T : Tx K mg) : OkX P w K mg base (He.ga K "Taken") 1 "Taken" ["self", "name"] (spX (He.ga K "Taken") 1 gf_Taken) :=
  OkM.mkX (OkM.of T.F_Taken___init__ T.me_Taken___init__ (fun _ _ _ _ _ _ us hl => match us, hl with | [_, _], _ => rfl) (fn_Taken___init__ T)) T.xk_Taken.o T.me_Taken___init__ T.xt_Taken T.g_Taken
abbrev gf_NoSlot : List V → List (Str × V) := (fun ws => [("name", ws.getD 0 .non)])
theorem fn_NoSlot___init__ (T : Tx K mg) (fd : FuncData) (F : FunD K "__init__" "NoSlot.__init__" (defArgs s_NoSlot___init__) (defBody s_NoSlot___init__) (defScope s_NoSlot___init__) [] [] (He.ma K (He.ga K "NoSlot") "__init__") fd) : FnOk P w K mg base CX0 1 (He.ma K (He.ga K "NoSlot") "__init__") fd ["self", "name"] (spX (He.ga K "NoSlot") 1 gf_NoSlot) := by
  refine F.ok sc_NoSlot___init__ (fun vs H Q E h => by obtain ⟨a, ws, rfl, hl, _⟩ := h; simp [hl]) (fun cdv A outer s H vs Q E hr h => ?_)
  obtain ⟨a, ws, rfl, hl, h1, k⟩ := h
  match ws, hl with
  | [y0], _ =>
    refine ⟨_, PSs.nox (pss_one (ps_ost (pv 0) (pv 1))), ?_⟩
    walk_at "yn"
    refine ⟨a, _, rfl, T.xk_NoSlot.o, T.na_NoSlot_name, .inl ⟨h1, fun dx hd hne => ?_⟩⟩
    walk_at "yn"
    exact k dx hd hne
theorem okx_NoSlot (T : Tx K mg) : OkX P w K mg base (He.ga K "NoSlot") 1 "NoSlot" ["self", "name"] (spX (He.ga K "NoSlot") 1 gf_NoSlot) :=
  OkM.mkX (OkM.of T.F_NoSlot___init__ T.me_NoSlot___init__ (fun _ _ _ _ _ _ us hl => match us, hl with | [_, _], _ => rfl) (fn_NoSlot___init__ T)) T.xk_NoSlot.o T.me_NoSlot___init__ T.xt_NoSlot T.g_NoSlot
abbrev gf_NoReader : List V → List (Str × V) := (fun ws => [("reader", ws.getD 0 .non)])
theorem fn_NoReader___init__ (T : Tx K mg) (fd : FuncData) (F : FunD K "__init__" "NoReader.__init__" (defArgs s_NoReader___init__) (defBody s_NoReader___init__) (defScope s_NoReader___init__) [] [] (He.ma K (He.ga K "NoReader") "__init__") fd) : FnOk P w K mg base CX0 1 (He.ma K (He.ga K "NoReader") "__init__") fd ["self", "reader"] (spX (He.ga K "NoReader") 1 gf_NoReader) := by
  refine F.ok sc_NoReader___init__ (fun vs H Q E h => by obtain ⟨a, ws, rfl, hl, _⟩ := h; simp [hl]) (fun cdv A outer s H vs Q E hr h => ?_)
  obtain ⟨a, ws, rfl, hl, h1, k⟩ := h
  match ws, hl with
  | [y0], _ =>
    refine ⟨_, PSs.nox (pss_one (ps_ost (pv 0) (pv 1))), ?_⟩
    walk_at "yn"
    refine ⟨a, _, rfl, T.xk_NoReader.o, T.na_NoReader_reader, .inl ⟨h1, fun dx hd hne => ?_⟩⟩
    walk_at "yn"
    exact k dx hd hne
theorem okx_NoReader (T : Tx K mg) : OkX P w K mg base (He.ga K "NoReader") 1 "NoReader" ["self", "reader"] (spX (He.ga K "NoReader") 1 gf_NoReader) :=
  OkM.mkX (OkM.of T.F_NoReader___init__ T.me_NoReader___init__ (fun _ _ _ _ _ _ us hl => match us, hl with | [_, _], _ => rfl) (fn_NoReader___init__ T)) T.xk_NoReader.o T.me_NoReader___init__ T.xt_NoReader T.g_NoReader

/-- a thing as data, its kind told -/
def Th (K : PySem.W.Frag) (B : Hp) (v : V) : Prop := ∃ d t, Dp K B v d ∧ d.plain = true ∧ d.depth ≤ 5 ∧ Kd K B v t ∧ t ∈ ["NoneType", "bool", "int", "str", "list", "tuple"]
theorem Th.up {B B' : Hp} {v : V} (s : Same B B') (h : Th K B v) : Th K B' v := by
  obtain ⟨d, t, h1, h2, h3, h4, h5⟩ := h
  exact ⟨d, t, Sub.d (Sub.of s) h1, h2, h3, h4.up (Sub.of s), h5⟩
def φ_thing (K : PySem.W.Frag) : Ph := fun B vs L k => ∃ b o n, vs = [.ref b] ∧ L = [(b, o)] ∧ Bag (n + 2) o ∧ ∀ v o' B', Th K B' v → Bag n o' → Same B B' → k B' v [(b, o')]
theorem fn_l_thing (T : Tx K mg) (fd : FuncData) (F : FunD K "_law_thing" "_law_thing" (defArgs s_l_thing) (defBody s_l_thing) (defScope s_l_thing) [] [] (He.ga K "_law_thing") fd) : FnOk P w K mg base CX0 3 (He.ga K "_law_thing") fd ["well"] (spY (φ_thing K)) := by
  refine fnM F sc_l_thing (fun B vs L k h => by obtain ⟨_, _, _, rfl, _⟩ := h; rfl) (fun cdv A outer s H vs Q E B L e hz he hr S h => ?_)
  obtain ⟨b, o, n, rfl, rfl, hb, k⟩ := h
  refine ⟨_, (pss_cons (ps_set (i := 1) sc_l_thing.nd rfl (.inl rfl) (pe_callO (ok_l_draw (K := K) T) hr (by rfl) (pa_cons (pv 0) (pa_cons (pe_op op_powU pe_int pe_int) pa_nil))))
      (pss_one (ps_ret (pe_ix (ix_U (K := K) rfl (hu_of hr)) (pe_lst (pa_cons pe_str (pa_cons pe_str (pa_cons pe_str (pa_cons (pv 1) (pa_cons (pe_op op_subU pe_int (pv 1)) (pa_cons pe_non (pa_cons (pe_tup (pa_cons (pv 1) pa_nil)) (pa_cons (pe_lst (pa_cons (pv 1) (pa_cons pe_int pa_nil))) (pa_cons pe_bl (pa_cons pe_int pa_nil))))))))))) (pe_callO (ok_l_draw (K := K) T) hr (by rfl) (pa_cons (pv 0) (pa_cons pe_int pa_nil))) (fun _ _ => rfl))))), ?_⟩
  walk_at "yn"
  refine y_powI (pow_ok (b := 5) (by decide) (by decide) (by decide) (by decide) (by decide)) ?_
  rw [show (10 : Int) ^ Int.toNat 20 = 100000000000000000000 from by decide +kernel]
  walk_at "yn"
  refine y_drawN 0 S rfl hb (by omega) (by omega) (by omega) fun i o H i0 i1 hb S => ?_
  try simp only [List.set] at S
  walk_at "yn"
  refine y_newI S fun p1 B1 H bS hp1 hp10 S => ?_
  walk_at "yn"
  refine y_newI S fun p2 B1 H bS hp2 hp20 S => ?_
  walk_at "yn"
  refine y_newI S fun p B1 H bS hp hp0 S => ?_
  walk_at "yn"
  refine y_drawN 0 S rfl hb (by omega) (by omega) (by omega) fun j o H j0 j1 hb S => ?_
  try simp only [List.set] at S
  walk_at "yn"
  refine y_ixM (S.l (sqL hp)) (by omega) (by show j < 10; omega) fun v hv => ?_
  refine k v o _ ?_ (hb.mono (by omega)) (by walk_at "up") _ S
  revert v
  repeat (refine List.forall_mem_cons.2 ⟨?_, ?_⟩; rotate_left)
  all_goals first
    | exact fun v hv => absurd hv (by simp)
    | exact ⟨_, _, .str _, rfl, (by simp [PyData.depth]), .str _, by decide⟩
    | exact ⟨_, _, .int _, rfl, (by simp [PyData.depth]), .int _, by decide⟩
    | exact ⟨_, _, .non, rfl, (by simp [PyData.depth]), .non, by decide⟩
    | exact ⟨_, _, .bl _, rfl, (by simp [PyData.depth]), .bl _, by decide⟩
    | ((refine' ⟨_, _, .tup (sqT (up_o ?s1 ?f1)) (.cons (.int _) .nil), rfl, (by simp [PyData.depth, PyData.depthAll]), .tup (sqT (up_o ?s1 ?f1)), by decide⟩); (case f1 => assumption); (case s1 => walk_at "up"))
    | ((refine' ⟨_, _, .lst (sqL (up_o ?s1 ?f1)) (.cons (.int _) (.cons (.int _) .nil)), rfl, (by simp [PyData.depth, PyData.depthAll]), .lst (sqL (up_o ?s1 ?f1)), by decide⟩); (case f1 => assumption); (case s1 => walk_at "up"))
theorem ok_l_thing (T : Tx K mg) : Ok P w K mg base 3 "_law_thing" ["well"] (spY (φ_thing K)) :=
  Ok.of T.F_l_thing T.g_l_thing (fun _ _ _ _ _ _ us hl => match us, hl with | [_], _ => rfl) (fn_l_thing T)
theorem kit_bool {t : String} (h : t ∈ ["NoneType", "bool", "int", "str", "list", "tuple"]) : ∃ r, kitB t "bool" = some r := by
  have all : ∀ t ∈ ["NoneType", "bool", "int", "str", "list", "tuple"], (kitB t "bool").isSome = true := by decide +kernel
  exact Option.isSome_iff_exists.mp (all t h)
theorem y_eqTh {e : En} {B H : Hp} {L : Led} {Q : VK} {v : V} (S : Sy e B H L) (h : Th K B v) (q : Q (.bl true) H) : rEqZ K v v H Q := by
  obtain ⟨d, t, h1, h2, h3, _⟩ := h
  exact .inr ⟨d, d, S.d h1, S.d h1, ⟨h2, by omega⟩, ⟨h2, by omega⟩, by rw [PySem.SeqAt.eqv_refl_plain d h2]; exact q⟩
def φ_same (K : PySem.W.Frag) : Ph := fun B vs L k => ∃ v, vs = [v, v] ∧ L = [] ∧ Th K B v ∧ k B (.bl true) []
theorem fn_l_same (T : Tx K mg) (fd : FuncData) (F : FunD K "_law_same" "_law_same" (defArgs s_l_same) (defBody s_l_same) (defScope s_l_same) [] [] (He.ga K "_law_same") fd) : FnOk P w K mg base CX0 1 (He.ga K "_law_same") fd ["found", "due"] (spY (φ_same K)) := by
  refine fnM F sc_l_same (fun B vs L k h => by obtain ⟨_, rfl, _⟩ := h; rfl) (fun cdv A outer s H vs Q E B L e hz he hr S h => ?_)
  obtain ⟨v, rfl, rfl, hv, k⟩ := h
  refine ⟨_, (pss_one (ps_ret (pe_and (pe_cmpR (op_eqZ (K := K) rfl hr.units) (pv 0) (pv 1) (nomark _)) (pe_one (pe_cmpR (op_eqZ (K := K) rfl hr.units) (pe_callB (call_isiZ (K := K) rfl) (by rfl) T.n_isinstance (by decide +kernel) (pa_cons (pv 0) (pa_cons (pe_bltn (v := .ty "bool") (u := .type "bool") (by rfl) T.n_bool (by decide +kernel) rfl) pa_nil))) (pe_callB (call_isiZ (K := K) rfl) (by rfl) T.n_isinstance (by decide +kernel) (pa_cons (pv 1) (pa_cons (pe_bltn (v := .ty "bool") (u := .type "bool") (by rfl) T.n_bool (by decide +kernel) rfl) pa_nil))) (nomark _)))))), ?_⟩
  walk_at "yn"
  refine y_eqTh S hv ?_
  walk_at "yn"
  obtain ⟨d, t, _, _, _, h4, h5⟩ := hv
  obtain ⟨r, hr1⟩ := kit_bool h5
  refine y_isiZ S h4 hr1 ?_
  walk_at "yn"
  refine y_isiZ S h4 hr1 ?_
  walk_at "yn"
  rw [decide_eq_true rfl]
  exact k _ S
theorem ok_l_same (T : Tx K mg) : Ok P w K mg base 1 "_law_same" ["found", "due"] (spY (φ_same K)) :=
  Ok.of T.F_l_same T.g_l_same (fun _ _ _ _ _ _ us hl => match us, hl with | [_, _], _ => rfl) (fn_l_same T)

def nm15 : List Str := ["NoWorth", "NoText", "NoLevel", "NoPage", "Left", "NoKey", "NoDealing", "NoSuch", "Taken", "NoSlot", "NoReader", "Ring", "Clash", "Late", "Undone"]
abbrev xcl : List Str := ["NoKey", "NoWorth", "NoText", "NoLevel", "NoDealing", "Clash", "Late", "NoSuch", "Ring", "Undone", "NoPage", "Taken", "NoSlot", "NoReader", "Left"]
theorem nm_in : ∀ x ∈ nm15, x ∈ xcl := by decide +kernel
theorem xcls (T : Tx K mg) : ∀ x ∈ nm15, XCls K (He.ga K x) := by
  unfold nm15
  repeat (refine List.forall_mem_cons.2 ⟨?_, ?_⟩; rotate_left)
  · exact fun _ h => nomatch h
  all_goals first
    | exact T.xk_NoWorth | exact T.xk_NoText | exact T.xk_NoLevel | exact T.xk_NoPage | exact T.xk_Left | exact T.xk_NoKey | exact T.xk_NoDealing | exact T.xk_NoSuch | exact T.xk_Taken | exact T.xk_NoSlot | exact T.xk_NoReader | exact T.xk_Ring | exact T.xk_Clash | exact T.xk_Late | exact T.xk_Undone
def φ_of (K : PySem.W.Frag) : Ph := fun B vs L k => ∃ (a : Addr) (i : Nat) (x : Str) (fs : List (Str × V)), vs = [.ref a, .int i] ∧ L = [] ∧ nm15[i]? = some x ∧ Ex B a (He.ga K x) fs ∧ ∀ B', Same B B' → k B' (.bl true) []
theorem nm_one : ∀ i, i < 15 → (List.range 15).filterMap (fun j : Nat => if nm15.getD i "" = nm15.getD j "" then some (j : Int) else none) = [(i : Int)] := by decide +kernel
theorem fn_l_of (T : Tx K mg) (fd : FuncData) (F : FunD K "_law_of" "_law_of" (defArgs s_l_of) (defBody s_l_of) (defScope s_l_of) [] [] (He.ga K "_law_of") fd) : FnOk P w K mg base CX0 3 (He.ga K "_law_of") fd ["made", "which"] (spY (φ_of K)) := by
  refine fnM F sc_l_of (fun B vs L k h => by obtain ⟨_, _, _, _, rfl, _⟩ := h; rfl) (fun cdv A outer s H vs Q E B L e hz he hr S h => ?_)
  obtain ⟨a, i, x, fs, rfl, rfl, hx, hex, k⟩ := h
  refine ⟨_, (pss_cons (ps_set (i := 2) sc_l_of.nd rfl (.inr rfl) (pe_lst (pa_cons (pe_callB (call_isiZ (K := K) rfl) (by rfl) T.n_isinstance (by decide +kernel) (pa_cons (pv 0) (pa_cons (pe_glob (v := .ref (He.ga K "NoWorth")) (by rfl) T.g_NoWorth rfl) pa_nil))) (pa_cons (pe_callB (call_isiZ (K := K) rfl) (by rfl) T.n_isinstance (by decide +kernel) (pa_cons (pv 0) (pa_cons (pe_glob (v := .ref (He.ga K "NoText")) (by rfl) T.g_NoText rfl) pa_nil))) (pa_cons (pe_callB (call_isiZ (K := K) rfl) (by rfl) T.n_isinstance (by decide +kernel) (pa_cons (pv 0) (pa_cons (pe_glob (v := .ref (He.ga K "NoLevel")) (by rfl) T.g_NoLevel rfl) pa_nil))) pa_nil)))))
      (pss_cons (ps_set (i := 2) sc_l_of.nd rfl (.inr rfl) (pe_op (op_addU (K := K) rfl) (pv 2) (pe_lst (pa_cons (pe_callB (call_isiZ (K := K) rfl) (by rfl) T.n_isinstance (by decide +kernel) (pa_cons (pv 0) (pa_cons (pe_glob (v := .ref (He.ga K "NoPage")) (by rfl) T.g_NoPage rfl) pa_nil))) (pa_cons (pe_callB (call_isiZ (K := K) rfl) (by rfl) T.n_isinstance (by decide +kernel) (pa_cons (pv 0) (pa_cons (pe_glob (v := .ref (He.ga K "Left")) (by rfl) T.g_Left rfl) pa_nil))) (pa_cons (pe_callB (call_isiZ (K := K) rfl) (by rfl) T.n_isinstance (by decide +kernel) (pa_cons (pv 0) (pa_cons (pe_glob (v := .ref (He.ga K "NoKey")) (by rfl) T.g_NoKey rfl) pa_nil))) pa_nil))))))
      (pss_cons (ps_set (i := 2) sc_l_of.nd rfl (.inr rfl) (pe_op (op_addU (K := K) rfl) (pv 2) (pe_lst (pa_cons (pe_callB (call_isiZ (K := K) rfl) (by rfl) T.n_isinstance (by decide +kernel) (pa_cons (pv 0) (pa_cons (pe_glob (v := .ref (He.ga K "NoDealing")) (by rfl) T.g_NoDealing rfl) pa_nil))) (pa_cons (pe_callB (call_isiZ (K := K) rfl) (by rfl) T.n_isinstance (by decide +kernel) (pa_cons (pv 0) (pa_cons (pe_glob (v := .ref (He.ga K "NoSuch")) (by rfl) T.g_NoSuch rfl) pa_nil))) (pa_cons (pe_callB (call_isiZ (K := K) rfl) (by rfl) T.n_isinstance (by decide +kernel) (pa_cons (pv 0) (pa_cons (pe_glob (v := .ref (He.ga K "Taken")) (by rfl) T.g_Taken rfl) pa_nil))) pa_nil))))))
      (pss_cons (ps_set (i := 2) sc_l_of.nd rfl (.inr rfl) (pe_op (op_addU (K := K) rfl) (pv 2) (pe_lst (pa_cons (pe_callB (call_isiZ (K := K) rfl) (by rfl) T.n_isinstance (by decide +kernel) (pa_cons (pv 0) (pa_cons (pe_glob (v := .ref (He.ga K "NoSlot")) (by rfl) T.g_NoSlot rfl) pa_nil))) (pa_cons (pe_callB (call_isiZ (K := K) rfl) (by rfl) T.n_isinstance (by decide +kernel) (pa_cons (pv 0) (pa_cons (pe_glob (v := .ref (He.ga K "NoReader")) (by rfl) T.g_NoReader rfl) pa_nil))) (pa_cons (pe_callB (call_isiZ (K := K) rfl) (by rfl) T.n_isinstance (by decide +kernel) (pa_cons (pv 0) (pa_cons (pe_glob (v := .ref (He.ga K "Ring")) (by rfl) T.g_Ring rfl) pa_nil))) pa_nil))))))
      (pss_cons (ps_set (i := 2) sc_l_of.nd rfl (.inr rfl) (pe_op (op_addU (K := K) rfl) (pv 2) (pe_lst (pa_cons (pe_callB (call_isiZ (K := K) rfl) (by rfl) T.n_isinstance (by decide +kernel) (pa_cons (pv 0) (pa_cons (pe_glob (v := .ref (He.ga K "Clash")) (by rfl) T.g_Clash rfl) pa_nil))) (pa_cons (pe_callB (call_isiZ (K := K) rfl) (by rfl) T.n_isinstance (by decide +kernel) (pa_cons (pv 0) (pa_cons (pe_glob (v := .ref (He.ga K "Late")) (by rfl) T.g_Late rfl) pa_nil))) (pa_cons (pe_callB (call_isiZ (K := K) rfl) (by rfl) T.n_isinstance (by decide +kernel) (pa_cons (pv 0) (pa_cons (pe_glob (v := .ref (He.ga K "Undone")) (by rfl) T.g_Undone rfl) pa_nil))) pa_nil))))))
      (pss_cons (ps_if (pt_cmpR (op_neZ (K := K) rfl hr.units) (pe_lc (own := [("k", 3)]) (by rfl) sc_l_of.nd (pi_range1 (by rfl) T.n_range (pa_cons pe_int pa_nil)) (blkOk_by (own := [("k", 3)]) (N := ["made", "which", "found", "k"]) (sc := defScope s_l_of) (by decide +kernel)) (fun _ _ _ _ _ => (pg_name (i := 3) sc_l_of.nd rfl (.inl rfl))) (fun _ _ _ _ _ => (pts_one (pt_val (pe_ix (ix_U (K := K) rfl (hu_of hr)) (pv 2) (pv 3) (fun _ _ => rfl))))) (fun _ _ _ _ _ => (pv 3))) (pe_lst (pa_cons (pv 1) pa_nil)) (nomark _))
      (pss_one (ps_ret pe_bl))
      pss_nil)
      (pss_one (ps_ret (pe_and (pe_callB (call_isiZ (K := K) rfl) (by rfl) T.n_isinstance (by decide +kernel) (pa_cons (pv 0) (pa_cons (pe_glob (v := .ref (He.ga K "HouseError")) (by rfl) T.g_HouseError rfl) pa_nil))) (pe_one (pe_callB (call_isiZ (K := K) rfl) (by rfl) T.n_isinstance (by decide +kernel) (pa_cons (pv 0) (pa_cons (pe_bltn (v := .ty "ValueError") (u := .type "ValueError") (by rfl) T.n_ValueError (by decide +kernel) rfl) pa_nil))))))))))))), ?_⟩
  walk_at "yn"
  have hm : x ∈ nm15 := List.mem_of_getElem? hx
  have C := xcls T x hm
  have I := T.xis.own x (nm_in x hm)
  repeat ((first
    | (refine y_isX S (Same.ex (by walk_at "up") hex) C (I _ (by decide +kernel)) ?_)
    | (refine y_newI S fun p B1 H b hp _ S => ?_)
    | ((refine' y_catL S (S.lst (up_o ?s1 ?f1)) (S.lst (up_o ?s2 ?f2)) ?hl ?_); (case f1 => assumption); (case s1 => walk_at "up"); (case f2 => assumption); (case s2 => walk_at "up"); (case hl => exact lenOk (Nat.le_of_ble_eq_true rfl)))); walk_at "yn")
  have hp2 : B1 p = some (.lst (nm15.map fun y => .bl (decide (x = y)))) := hp
  have bB : Same B B1 := by walk_at "up"
  have hex1 := Same.ex bB hex
  clear hp
  walk_at "yy"
  refine y_lcRel IntAt IntAt.up walk_range S (by decide) (fun j => if x = nm15.getD j "" then some (j : Int) else none) (fun _ _ _ _ _ _ => trivial) (fun j v B5 H5 H5' acc D Kp Kn hj b5 S5 hy kp kn => ?_) (fun B5 H acc D b5 hD hq S => ?_)
  · obtain ⟨rfl, rfl⟩ := hy
    walk_at "yn"
    have hj15 : j < nm15.length := hj
    have e1 : (nm15.map fun y => V.bl (decide (x = y)))[j]? = some (.bl (decide (x = nm15.getD j ""))) := by
      rw [List.getElem?_map, List.getElem?_eq_getElem hj15, List.getD_eq_getElem?_getD, List.getElem?_eq_getElem hj15]; rfl
    show rIxU K (V.ref p) (V.int (0 + (j : Int))) _ _
    refine y_ixL (S5.l (sqL (b5 _ _ hp2))) (v := .bl (decide (x = nm15.getD j ""))) (atI_of (by omega) (by rw [show (0 + (j : Int)).toNat = j from by omega]; exact e1)) ?_
    by_cases c : x = nm15.getD j ""
    · rw [decide_eq_true c]
      walk_at "yn"
      exact kp _ _ _ _ (if_pos c) (Same.refl _) (show V.int (0 + (j : Int)) = V.int j by rw [Int.zero_add]) S5
    · rw [decide_eq_false c]
      walk_at "yn"
      exact kn _ _ (if_neg c) (Same.refl _) S5
  have hi15 : i < 15 := (List.getElem?_eq_some_iff.mp hx).1
  have ex : x = nm15.getD i "" := by rw [List.getD_eq_getElem?_getD, hx]; rfl
  have e2 : (List.range (Int.toNat 15)).filterMap (fun j : Nat => if x = nm15.getD j "" then some (j : Int) else none) = [(i : Int)] := by
    rw [ex]; exact nm_one i hi15
  rw [e2] at hq
  walk_at "yn"
  obtain ⟨B6, b6, hD6, S⟩ := S.frz 0 rfl hD
  simp only [List.eraseIdx] at S
  walk_at "yn"
  refine y_newI S fun q B7 H b7 hq7 _ S => ?_
  walk_at "yn"
  refine y_neC (.list .int) (z := [(i : Int)]) (w := [(i : Int)]) S (At.up b7 (At.list (sqL hD6) (by cases hq with | cons h1 h2 => cases h2; cases h1; exact .cons .int .nil))) (At.list (sqL hq7) (.cons .int .nil)) (by decide) ?_
  rw [decide_eq_true rfl]
  walk_at "yn"
  refine y_isX S (Same.ex (by walk_at "up") hex1) C (T.xis.up x (nm_in x hm)) ?_
  walk_at "yn"
  refine y_isXt S (Same.ex (by walk_at "up") hex1) C (T.xis.ve x (nm_in x hm)) ?_
  walk_at "yn"
  exact k _ (by walk_at "up") _ S
theorem ok_l_of (T : Tx K mg) : Ok P w K mg base 3 "_law_of" ["made", "which"] (spY (φ_of K)) :=
  Ok.of T.F_l_of T.g_l_of (fun _ _ _ _ _ _ us hl => match us, hl with | [_, _], _ => rfl) (fn_l_of T)

theorem y_eqPair {e : En} {B H : Hp} {L : Led} {Q : VK} {v : V} {a b : Addr} (S : Sy e B H L) (h1 : SqL K B a [v, v]) (h2 : SqL K B b [v, v]) (h : Th K B v) (q : Q (.bl true) H) : rEqZ K (.ref a) (.ref b) H Q := by
  obtain ⟨d, t, h3, h4, h5, _⟩ := h
  have pl : (PyData.list [d, d]).plain = true := by simp [PyData.plain, PyData.plainAll, h4]
  have dp : (PyData.list [d, d]).depth ≤ 50 := by simp [PyData.depth, PyData.depthAll]; omega
  exact .inr ⟨.list [d, d], .list [d, d], S.d (.lst h1 (.cons h3 (.cons h3 .nil))), S.d (.lst h2 (.cons h3 (.cons h3 .nil))), ⟨pl, dp⟩, ⟨pl, dp⟩, by rw [PySem.SeqAt.eqv_refl_plain _ pl]; exact q⟩
def φ_plain (K : PySem.W.Frag) : Ph := fun B vs L k => ∃ i : Int, vs = [.int i] ∧ L = [] ∧ 0 ≤ i ∧ i < 5 ∧ ∀ B', Same B B' → k B' (.bl true) []
theorem fn_l_plain (T : Tx K mg) (fd : FuncData) (F : FunD K "_law_plain" "_law_plain" (defArgs s_l_plain) (defBody s_l_plain) (defScope s_l_plain) [] [] (He.ga K "_law_plain") fd) : FnOk P w K mg base CX0 4 (He.ga K "_law_plain") fd ["which"] (spY (φ_plain K)) := by
  refine fnM F sc_l_plain (fun B vs L k h => by obtain ⟨_, rfl, _⟩ := h; rfl) (fun cdv A outer s H vs Q E B L e hz he hr S h => ?_)
  obtain ⟨i, rfl, rfl, h0, h1, k⟩ := h
  refine ⟨_, (pss_cons (ps_if (pt_cmpR (op_eqZ (K := K) rfl hr.units) (pv 0) pe_int (nomark _))
      (pss_one (ps_ret (pe_callO (ok_l_of (K := K) T) hr (by rfl) (pa_cons (pe_exc0 PySem.F.excBase_ValueError T.xp_NoWorth.1 T.g_NoWorth T.xp_NoWorth.2.1 (by rfl)) (pa_cons pe_int pa_nil)))))
      pss_nil)
      (pss_cons (ps_if (pt_cmpR (op_eqZ (K := K) rfl hr.units) (pv 0) pe_int (nomark _))
      (pss_one (ps_ret (pe_callO (ok_l_of (K := K) T) hr (by rfl) (pa_cons (pe_exc0 PySem.F.excBase_ValueError T.xp_NoText.1 T.g_NoText T.xp_NoText.2.1 (by rfl)) (pa_cons pe_int pa_nil)))))
      pss_nil)
      (pss_cons (ps_if (pt_cmpR (op_eqZ (K := K) rfl hr.units) (pv 0) pe_int (nomark _))
      (pss_one (ps_ret (pe_callO (ok_l_of (K := K) T) hr (by rfl) (pa_cons (pe_exc0 PySem.F.excBase_ValueError T.xp_NoLevel.1 T.g_NoLevel T.xp_NoLevel.2.1 (by rfl)) (pa_cons pe_int pa_nil)))))
      pss_nil)
      (pss_cons (ps_if (pt_cmpR (op_eqZ (K := K) rfl hr.units) (pv 0) pe_int (nomark _))
      (pss_one (ps_ret (pe_callO (ok_l_of (K := K) T) hr (by rfl) (pa_cons (pe_exc0 PySem.F.excBase_ValueError T.xp_NoPage.1 T.g_NoPage T.xp_NoPage.2.1 (by rfl)) (pa_cons pe_int pa_nil)))))
      pss_nil)
      (pss_one (ps_ret (pe_callO (ok_l_of (K := K) T) hr (by rfl) (pa_cons (pe_exc0 PySem.F.excBase_ValueError T.xp_Left.1 T.g_Left T.xp_Left.2.1 (by rfl)) (pa_cons pe_int pa_nil))))))))), ?_⟩
  walk_at "yn"
  walk_at "yy"
  refine y_ite (fun hc => ?_) (fun hc => ?_)
  · walk_at "yn"
    refine y_exc0 S fun a B1 H b1 hx S => ?_
    walk_at "yn"
    refine y_sp0 S ⟨a, 0, "NoWorth", [], rfl, rfl, rfl, hx, fun B2 b2 H T => ?_⟩
    replace S := S.back0 T
    clear T
    walk_at "yn"
    exact k _ (b1.trans b2) _ S
  walk_at "yn"
  walk_at "yy"
  refine y_ite (fun hc => ?_) (fun hc => ?_)
  · walk_at "yn"
    refine y_exc0 S fun a B1 H b1 hx S => ?_
    walk_at "yn"
    refine y_sp0 S ⟨a, 1, "NoText", [], rfl, rfl, rfl, hx, fun B2 b2 H T => ?_⟩
    replace S := S.back0 T
    clear T
    walk_at "yn"
    exact k _ (b1.trans b2) _ S
  walk_at "yn"
  walk_at "yy"
  refine y_ite (fun hc => ?_) (fun hc => ?_)
  · walk_at "yn"
    refine y_exc0 S fun a B1 H b1 hx S => ?_
    walk_at "yn"
    refine y_sp0 S ⟨a, 2, "NoLevel", [], rfl, rfl, rfl, hx, fun B2 b2 H T => ?_⟩
    replace S := S.back0 T
    clear T
    walk_at "yn"
    exact k _ (b1.trans b2) _ S
  walk_at "yn"
  walk_at "yy"
  refine y_ite (fun hc => ?_) (fun hc => ?_)
  · walk_at "yn"
    refine y_exc0 S fun a B1 H b1 hx S => ?_
    walk_at "yn"
    refine y_sp0 S ⟨a, 3, "NoPage", [], rfl, rfl, rfl, hx, fun B2 b2 H T => ?_⟩
    replace S := S.back0 T
    clear T
    walk_at "yn"
    exact k _ (b1.trans b2) _ S
  walk_at "yn"
  refine y_exc0 S fun a B1 H b1 hx S => ?_
  walk_at "yn"
  refine y_sp0 S ⟨a, 4, "Left", [], rfl, rfl, rfl, hx, fun B2 b2 H T => ?_⟩
  replace S := S.back0 T
  clear T
  walk_at "yn"
  exact k _ (b1.trans b2) _ S
theorem ok_l_plain (T : Tx K mg) : Ok P w K mg base 4 "_law_plain" ["which"] (spY (φ_plain K)) :=
  Ok.of T.F_l_plain T.g_l_plain (fun _ _ _ _ _ _ us hl => match us, hl with | [_], _ => rfl) (fn_l_plain T)
def φ_one (K : PySem.W.Frag) : Ph := fun B vs L k => ∃ (i : Int) (v : V), vs = [.int i, v] ∧ L = [] ∧ 5 ≤ i ∧ i < 12 ∧ Th K B v ∧ ∀ B', Same B B' → k B' (.bl true) []
theorem fn_l_with_one (T : Tx K mg) (fd : FuncData) (F : FunD K "_law_with_one" "_law_with_one" (defArgs s_l_with_one) (defBody s_l_with_one) (defScope s_l_with_one) [] [] (He.ga K "_law_with_one") fd) : FnOk P w K mg base CX0 4 (He.ga K "_law_with_one") fd ["which", "one"] (spY (φ_one K)) := by
  refine fnM F sc_l_with_one (fun B vs L k h => by obtain ⟨_, _, rfl, _⟩ := h; rfl) (fun cdv A outer s H vs Q E B L e hz he hr S h => ?_)
  obtain ⟨i, v, rfl, rfl, h0, h1, hv, k⟩ := h
  refine ⟨_, (pss_cons (ps_if (pt_cmpR (op_eqZ (K := K) rfl hr.units) (pv 0) pe_int (nomark _))
      (pss_cons (ps_set (i := 2) sc_l_with_one.nd rfl (.inl rfl) (pe_xO (okx_NoKey (K := K) T) (hr.mono (by decide)) (by rfl) (pa_cons (pv 1) pa_nil)))
      (pss_one (ps_ret (pe_and (pe_callO (ok_l_of (K := K) T) hr (by rfl) (pa_cons (pv 2) (pa_cons pe_int pa_nil))) (pe_one (pe_callO (ok_l_same (K := K) T) (hr.mono (by decide)) (by rfl) (pa_cons (pe_exF (K := K) rfl (pv 2)) (pa_cons (pv 1) pa_nil))))))))
      pss_nil)
      (pss_cons (ps_if (pt_cmpR (op_eqZ (K := K) rfl hr.units) (pv 0) pe_int (nomark _))
      (pss_cons (ps_set (i := 3) sc_l_with_one.nd rfl (.inl rfl) (pe_xO (okx_NoDealing (K := K) T) (hr.mono (by decide)) (by rfl) (pa_cons (pv 1) pa_nil)))
      (pss_one (ps_ret (pe_and (pe_callO (ok_l_of (K := K) T) hr (by rfl) (pa_cons (pv 3) (pa_cons pe_int pa_nil))) (pe_one (pe_callO (ok_l_same (K := K) T) (hr.mono (by decide)) (by rfl) (pa_cons (pe_exF (K := K) rfl (pv 3)) (pa_cons (pv 1) pa_nil))))))))
      pss_nil)
      (pss_cons (ps_if (pt_cmpR (op_eqZ (K := K) rfl hr.units) (pv 0) pe_int (nomark _))
      (pss_cons (ps_set (i := 4) sc_l_with_one.nd rfl (.inl rfl) (pe_xO (okx_NoSuch (K := K) T) (hr.mono (by decide)) (by rfl) (pa_cons (pv 1) pa_nil)))
      (pss_one (ps_ret (pe_and (pe_callO (ok_l_of (K := K) T) hr (by rfl) (pa_cons (pv 4) (pa_cons pe_int pa_nil))) (pe_one (pe_callO (ok_l_same (K := K) T) (hr.mono (by decide)) (by rfl) (pa_cons (pe_exF (K := K) rfl (pv 4)) (pa_cons (pv 1) pa_nil))))))))
      pss_nil)
      (pss_cons (ps_if (pt_cmpR (op_eqZ (K := K) rfl hr.units) (pv 0) pe_int (nomark _))
      (pss_cons (ps_set (i := 5) sc_l_with_one.nd rfl (.inl rfl) (pe_xO (okx_Taken (K := K) T) (hr.mono (by decide)) (by rfl) (pa_cons (pv 1) pa_nil)))
      (pss_one (ps_ret (pe_and (pe_callO (ok_l_of (K := K) T) hr (by rfl) (pa_cons (pv 5) (pa_cons pe_int pa_nil))) (pe_one (pe_callO (ok_l_same (K := K) T) (hr.mono (by decide)) (by rfl) (pa_cons (pe_exF (K := K) rfl (pv 5)) (pa_cons (pv 1) pa_nil))))))))
      pss_nil)
      (pss_cons (ps_if (pt_cmpR (op_eqZ (K := K) rfl hr.units) (pv 0) pe_int (nomark _))
      (pss_cons (ps_set (i := 6) sc_l_with_one.nd rfl (.inl rfl) (pe_xO (okx_NoSlot (K := K) T) (hr.mono (by decide)) (by rfl) (pa_cons (pv 1) pa_nil)))
      (pss_one (ps_ret (pe_and (pe_callO (ok_l_of (K := K) T) hr (by rfl) (pa_cons (pv 6) (pa_cons pe_int pa_nil))) (pe_one (pe_callO (ok_l_same (K := K) T) (hr.mono (by decide)) (by rfl) (pa_cons (pe_exF (K := K) rfl (pv 6)) (pa_cons (pv 1) pa_nil))))))))
      pss_nil)
      (pss_cons (ps_if (pt_cmpR (op_eqZ (K := K) rfl hr.units) (pv 0) pe_int (nomark _))
      (pss_cons (ps_set (i := 7) sc_l_with_one.nd rfl (.inl rfl) (pe_xO (okx_NoReader (K := K) T) (hr.mono (by decide)) (by rfl) (pa_cons (pv 1) pa_nil)))
      (pss_one (ps_ret (pe_and (pe_callO (ok_l_of (K := K) T) hr (by rfl) (pa_cons (pv 7) (pa_cons pe_int pa_nil))) (pe_one (pe_callO (ok_l_same (K := K) T) (hr.mono (by decide)) (by rfl) (pa_cons (pe_exF (K := K) rfl (pv 7)) (pa_cons (pv 1) pa_nil))))))))
      pss_nil)
      (pss_cons (ps_set (i := 8) sc_l_with_one.nd rfl (.inl rfl) (pe_xO (okx_Ring (K := K) T) (hr.mono (by decide)) (by rfl) (pa_cons (pe_lst (pa_cons (pv 1) (pa_cons (pv 1) pa_nil))) pa_nil)))
      (pss_one (ps_ret (pe_and (pe_callO (ok_l_of (K := K) T) hr (by rfl) (pa_cons (pv 8) (pa_cons pe_int pa_nil))) (pe_one (pe_cmpR (op_eqZ (K := K) rfl hr.units) (pe_exF (K := K) rfl (pv 8)) (pe_lst (pa_cons (pv 1) (pa_cons (pv 1) pa_nil))) (nomark _))))))))))))), ?_⟩
  walk_at "yn"
  walk_at "yy"
  refine y_ite (fun hc => ?_) (fun hc => ?_)
  · walk_at "yn"
    refine y_mkXK S rfl (by decide) fun a B1 H b1 hx S => ?_
    walk_at "yn"
    refine y_sp0 S ⟨a, 5, "NoKey", _, rfl, rfl, rfl, hx, fun B2 b2 H T => ?_⟩
    replace S := S.back0 T
    clear T
    walk_at "yn"
    refine y_exFK S (Same.ex b2 hx) T.xk_NoKey T.na_NoKey_key rfl ?_
    walk_at "yn"
    refine y_sp0 S ⟨_, rfl, rfl, (Th.up (b1.trans b2) hv), fun  H T => ?_⟩
    replace S := S.back0 T
    clear T
    walk_at "yn"
    exact k _ (b1.trans b2) _ S
  walk_at "yn"
  walk_at "yy"
  refine y_ite (fun hc => ?_) (fun hc => ?_)
  · walk_at "yn"
    refine y_mkXK S rfl (by decide) fun a B1 H b1 hx S => ?_
    walk_at "yn"
    refine y_sp0 S ⟨a, 6, "NoDealing", _, rfl, rfl, rfl, hx, fun B2 b2 H T => ?_⟩
    replace S := S.back0 T
    clear T
    walk_at "yn"
    refine y_exFK S (Same.ex b2 hx) T.xk_NoDealing T.na_NoDealing_dealing rfl ?_
    walk_at "yn"
    refine y_sp0 S ⟨_, rfl, rfl, (Th.up (b1.trans b2) hv), fun  H T => ?_⟩
    replace S := S.back0 T
    clear T
    walk_at "yn"
    exact k _ (b1.trans b2) _ S
  walk_at "yn"
  walk_at "yy"
  refine y_ite (fun hc => ?_) (fun hc => ?_)
  · walk_at "yn"
    refine y_mkXK S rfl (by decide) fun a B1 H b1 hx S => ?_
    walk_at "yn"
    refine y_sp0 S ⟨a, 7, "NoSuch", _, rfl, rfl, rfl, hx, fun B2 b2 H T => ?_⟩
    replace S := S.back0 T
    clear T
    walk_at "yn"
    refine y_exFK S (Same.ex b2 hx) T.xk_NoSuch T.na_NoSuch_key rfl ?_
    walk_at "yn"
    refine y_sp0 S ⟨_, rfl, rfl, (Th.up (b1.trans b2) hv), fun  H T => ?_⟩
    replace S := S.back0 T
    clear T
    walk_at "yn"
    exact k _ (b1.trans b2) _ S
  walk_at "yn"
  walk_at "yy"
  refine y_ite (fun hc => ?_) (fun hc => ?_)
  · walk_at "yn"
    refine y_mkXK S rfl (by decide) fun a B1 H b1 hx S => ?_
    walk_at "yn"
    refine y_sp0 S ⟨a, 8, "Taken", _, rfl, rfl, rfl, hx, fun B2 b2 H T => ?_⟩
    replace S := S.back0 T
    clear T
    walk_at "yn"
    refine y_exFK S (Same.ex b2 hx) T.xk_Taken T.na_Taken_name rfl ?_
    walk_at "yn"
    refine y_sp0 S ⟨_, rfl, rfl, (Th.up (b1.trans b2) hv), fun  H T => ?_⟩
    replace S := S.back0 T
    clear T
    walk_at "yn"
    exact k _ (b1.trans b2) _ S
  walk_at "yn"
  walk_at "yy"
  refine y_ite (fun hc => ?_) (fun hc => ?_)
  · walk_at "yn"
    refine y_mkXK S rfl (by decide) fun a B1 H b1 hx S => ?_
    walk_at "yn"
    refine y_sp0 S ⟨a, 9, "NoSlot", _, rfl, rfl, rfl, hx, fun B2 b2 H T => ?_⟩
    replace S := S.back0 T
    clear T
    walk_at "yn"
    refine y_exFK S (Same.ex b2 hx) T.xk_NoSlot T.na_NoSlot_name rfl ?_
    walk_at "yn"
    refine y_sp0 S ⟨_, rfl, rfl, (Th.up (b1.trans b2) hv), fun  H T => ?_⟩
    replace S := S.back0 T
    clear T
    walk_at "yn"
    exact k _ (b1.trans b2) _ S
  walk_at "yn"
  walk_at "yy"
  refine y_ite (fun hc => ?_) (fun hc => ?_)
  · walk_at "yn"
    refine y_mkXK S rfl (by decide) fun a B1 H b1 hx S => ?_
    walk_at "yn"
    refine y_sp0 S ⟨a, 10, "NoReader", _, rfl, rfl, rfl, hx, fun B2 b2 H T => ?_⟩
    replace S := S.back0 T
    clear T
    walk_at "yn"
    refine y_exFK S (Same.ex b2 hx) T.xk_NoReader T.na_NoReader_reader rfl ?_
    walk_at "yn"
    refine y_sp0 S ⟨_, rfl, rfl, (Th.up (b1.trans b2) hv), fun  H T => ?_⟩
    replace S := S.back0 T
    clear T
    walk_at "yn"
    exact k _ (b1.trans b2) _ S
  walk_at "yn"
  refine y_newI S fun p1 B1 H bS hp1 hp10 S => ?_
  walk_at "yn"
  refine y_mkXK S rfl (by decide) fun a B2 H b2 hx S => ?_
  walk_at "yn"
  refine y_sp0 S ⟨a, 11, "Ring", _, rfl, rfl, rfl, hx, fun B3 b3 H T => ?_⟩
  replace S := S.back0 T
  clear T
  walk_at "yn"
  refine y_exFK S (Same.ex b3 hx) T.xk_Ring T.na_Ring_dealings rfl ?_
  walk_at "yn"
  refine y_newI S fun p2 B4 H b4 hp2 _ S => ?_
  walk_at "yn"
  refine y_eqPair S (sqL (up_o (by walk_at "up") hp1)) (sqL hp2) (Th.up (by walk_at "up") hv) ?_
  walk_at "yn"
  exact k _ (by walk_at "up") _ S
theorem ok_l_with_one (T : Tx K mg) : Ok P w K mg base 4 "_law_with_one" ["which", "one"] (spY (φ_one K)) :=
  Ok.of T.F_l_with_one T.g_l_with_one (fun _ _ _ _ _ _ us hl => match us, hl with | [_, _], _ => rfl) (fn_l_with_one T)
def φ_two (K : PySem.W.Frag) : Ph := fun B vs L k => ∃ (i : Int) (v u : V), vs = [.int i, v, u] ∧ L = [] ∧ 12 ≤ i ∧ i < 15 ∧ Th K B v ∧ Th K B u ∧ ∀ B', Same B B' → k B' (.bl true) []
theorem fn_l_with_two (T : Tx K mg) (fd : FuncData) (F : FunD K "_law_with_two" "_law_with_two" (defArgs s_l_with_two) (defBody s_l_with_two) (defScope s_l_with_two) [] [] (He.ga K "_law_with_two") fd) : FnOk P w K mg base CX0 4 (He.ga K "_law_with_two") fd ["which", "one", "other"] (spY (φ_two K)) := by
  refine fnM F sc_l_with_two (fun B vs L k h => by obtain ⟨_, _, _, rfl, _⟩ := h; rfl) (fun cdv A outer s H vs Q E B L e hz he hr S h => ?_)
  obtain ⟨i, v, u, rfl, rfl, h0, h1, hv, hu, k⟩ := h
  refine ⟨_, (pss_cons (ps_if (pt_cmpR (op_eqZ (K := K) rfl hr.units) (pv 0) pe_int (nomark _))
      (pss_cons (ps_set (i := 3) sc_l_with_two.nd rfl (.inl rfl) (pe_xO (okx_Clash (K := K) T) (hr.mono (by decide)) (by rfl) (pa_cons (pv 1) (pa_cons (pv 2) pa_nil))))
      (pss_one (ps_ret (pe_and (pe_callO (ok_l_of (K := K) T) hr (by rfl) (pa_cons (pv 3) (pa_cons pe_int pa_nil))) (pe_and (pe_callO (ok_l_same (K := K) T) (hr.mono (by decide)) (by rfl) (pa_cons (pe_exF (K := K) rfl (pv 3)) (pa_cons (pv 1) pa_nil))) (pe_one (pe_callO (ok_l_same (K := K) T) (hr.mono (by decide)) (by rfl) (pa_cons (pe_exF (K := K) rfl (pv 3)) (pa_cons (pv 2) pa_nil)))))))))
      pss_nil)
      (pss_cons (ps_if (pt_cmpR (op_eqZ (K := K) rfl hr.units) (pv 0) pe_int (nomark _))
      (pss_cons (ps_set (i := 4) sc_l_with_two.nd rfl (.inl rfl) (pe_xO (okx_Late (K := K) T) (hr.mono (by decide)) (by rfl) (pa_cons (pv 1) (pa_cons (pv 2) pa_nil))))
      (pss_one (ps_ret (pe_and (pe_callO (ok_l_of (K := K) T) hr (by rfl) (pa_cons (pv 4) (pa_cons pe_int pa_nil))) (pe_and (pe_callO (ok_l_same (K := K) T) (hr.mono (by decide)) (by rfl) (pa_cons (pe_exF (K := K) rfl (pv 4)) (pa_cons (pv 1) pa_nil))) (pe_one (pe_callO (ok_l_same (K := K) T) (hr.mono (by decide)) (by rfl) (pa_cons (pe_exF (K := K) rfl (pv 4)) (pa_cons (pv 2) pa_nil)))))))))
      pss_nil)
      (pss_cons (ps_set (i := 5) sc_l_with_two.nd rfl (.inl rfl) (pe_xO (okx_Undone (K := K) T) (hr.mono (by decide)) (by rfl) (pa_cons (pv 1) (pa_cons (pv 2) pa_nil))))
      (pss_one (ps_ret (pe_and (pe_callO (ok_l_of (K := K) T) hr (by rfl) (pa_cons (pv 5) (pa_cons pe_int pa_nil))) (pe_and (pe_callO (ok_l_same (K := K) T) (hr.mono (by decide)) (by rfl) (pa_cons (pe_exF (K := K) rfl (pv 5)) (pa_cons (pv 1) pa_nil))) (pe_one (pe_callO (ok_l_same (K := K) T) (hr.mono (by decide)) (by rfl) (pa_cons (pe_exF (K := K) rfl (pv 5)) (pa_cons (pv 2) pa_nil))))))))))), ?_⟩
  walk_at "yn"
  walk_at "yy"
  refine y_ite (fun hc => ?_) (fun hc => ?_)
  · walk_at "yn"
    refine y_mkXK S rfl (by decide) fun a B1 H b1 hx S => ?_
    walk_at "yn"
    refine y_sp0 S ⟨a, 12, "Clash", _, rfl, rfl, rfl, hx, fun B2 b2 H T => ?_⟩
    replace S := S.back0 T
    clear T
    walk_at "yn"
    refine y_exFK S (Same.ex b2 hx) T.xk_Clash T.na_Clash_key rfl ?_
    walk_at "yn"
    refine y_sp0 S ⟨_, rfl, rfl, (Th.up (b1.trans b2) hv), fun  H T => ?_⟩
    replace S := S.back0 T
    clear T
    walk_at "yn"
    refine y_exFK S (Same.ex b2 hx) T.xk_Clash T.na_Clash_dealing rfl ?_
    walk_at "yn"
    refine y_sp0 S ⟨_, rfl, rfl, (Th.up (b1.trans b2) hu), fun  H T => ?_⟩
    replace S := S.back0 T
    clear T
    walk_at "yn"
    exact k _ (b1.trans b2) _ S
  walk_at "yn"
  walk_at "yy"
  refine y_ite (fun hc => ?_) (fun hc => ?_)
  · walk_at "yn"
    refine y_mkXK S rfl (by decide) fun a B1 H b1 hx S => ?_
    walk_at "yn"
    refine y_sp0 S ⟨a, 13, "Late", _, rfl, rfl, rfl, hx, fun B2 b2 H T => ?_⟩
    replace S := S.back0 T
    clear T
    walk_at "yn"
    refine y_exFK S (Same.ex b2 hx) T.xk_Late T.na_Late_key rfl ?_
    walk_at "yn"
    refine y_sp0 S ⟨_, rfl, rfl, (Th.up (b1.trans b2) hv), fun  H T => ?_⟩
    replace S := S.back0 T
    clear T
    walk_at "yn"
    refine y_exFK S (Same.ex b2 hx) T.xk_Late T.na_Late_dealing rfl ?_
    walk_at "yn"
    refine y_sp0 S ⟨_, rfl, rfl, (Th.up (b1.trans b2) hu), fun  H T => ?_⟩
    replace S := S.back0 T
    clear T
    walk_at "yn"
    exact k _ (b1.trans b2) _ S
  walk_at "yn"
  refine y_mkXK S rfl (by decide) fun a B1 H b1 hx S => ?_
  walk_at "yn"
  refine y_sp0 S ⟨a, 14, "Undone", _, rfl, rfl, rfl, hx, fun B2 b2 H T => ?_⟩
  replace S := S.back0 T
  clear T
  walk_at "yn"
  refine y_exFK S (Same.ex b2 hx) T.xk_Undone T.na_Undone_at rfl ?_
  walk_at "yn"
  refine y_sp0 S ⟨_, rfl, rfl, (Th.up (b1.trans b2) hv), fun  H T => ?_⟩
  replace S := S.back0 T
  clear T
  walk_at "yn"
  refine y_exFK S (Same.ex b2 hx) T.xk_Undone T.na_Undone_dealing rfl ?_
  walk_at "yn"
  refine y_sp0 S ⟨_, rfl, rfl, (Th.up (b1.trans b2) hu), fun  H T => ?_⟩
  replace S := S.back0 T
  clear T
  walk_at "yn"
  exact k _ (b1.trans b2) _ S
theorem ok_l_with_two (T : Tx K mg) : Ok P w K mg base 4 "_law_with_two" ["which", "one", "other"] (spY (φ_two K)) :=
  Ok.of T.F_l_with_two T.g_l_with_two (fun _ _ _ _ _ _ us hl => match us, hl with | [_, _, _], _ => rfl) (fn_l_with_two T)

theorem fn_law (T : Tx K mg) (fd : FuncData) (F : FunD K "law" "law" (defArgs s_law) (defBody s_law) (defScope s_law) [] [] (He.ga K "law") fd) : FnOk P w K mg base CX0 5 (He.ga K "law") fd ["script"] (spY (φ_law K)) := by
  refine fnY F sc_law (fun B vs L k h => by obtain ⟨_, _, rfl, _⟩ := h; rfl) (fun cdv A outer s H vs Q E B L e hz he hr S h => ?_)
  obtain ⟨a, ns, rfl, rfl, hq, hlen, k⟩ := h
  refine ⟨_, (pss_cons (ps_for PassesOwn.never rfl (pi_range1 (by rfl) T.n_range (pa_cons (pe_callB (call_max2U rfl) (by rfl) T.n_max (by decide +kernel) (pa_cons pe_int (pa_cons (pe_callB (call_min2U rfl) (by rfl) T.n_min (by decide +kernel) (pa_cons pe_int (pa_cons (pe_callB (call_lenU (K := K) rfl) (by rfl) T.n_len (by decide +kernel) (pa_cons (pv 0) pa_nil)) pa_nil))) pa_nil))) pa_nil)) (pg_name (i := 1) sc_law.nd rfl (.inl rfl))
      (pss_cons (ps_set (i := 2) sc_law.nd rfl (.inl rfl) (pe_callO (ok_l_well (K := K) T) (hr.mono (by decide)) (by rfl) (pa_cons (pe_callO (ok_l_cell_at (K := K) T) (hr.mono (by decide)) (by rfl) (pa_cons (pv 0) (pa_cons (pv 1) pa_nil))) (pa_cons (pv 1) pa_nil))))
      (pss_cons (ps_set (i := 3) sc_law.nd rfl (.inl rfl) (pe_callO (ok_l_draw (K := K) T) (hr.mono (by decide)) (by rfl) (pa_cons (pv 2) (pa_cons pe_int pa_nil))))
      (pss_cons (ps_set (i := 4) sc_law.nd rfl (.inl rfl) (pe_callO (ok_l_thing (K := K) T) (hr.mono (by decide)) (by rfl) (pa_cons (pv 2) pa_nil)))
      (pss_cons (ps_set (i := 5) sc_law.nd rfl (.inl rfl) (pe_callO (ok_l_thing (K := K) T) (hr.mono (by decide)) (by rfl) (pa_cons (pv 2) pa_nil)))
      (pss_cons (ps_if (PW.pt (pw_and (pt_cmpR op_ltU (pv 3) pe_int (nomark _)) (pw_and1 (pt_not (pt_val (pe_callO (ok_l_plain (K := K) T) hr (by rfl) (pa_cons (pv 3) pa_nil)))))))
      (pss_one (ps_ret pe_bl))
      pss_nil)
      (pss_cons (ps_if (PW.pt (pw_and (pt_chain op_ltU op_ltU pe_int (pv 3) pe_int) (pw_and1 (pt_not (pt_val (pe_callO (ok_l_with_one (K := K) T) hr (by rfl) (pa_cons (pv 3) (pa_cons (pv 4) pa_nil))))))))
      (pss_one (ps_ret pe_bl))
      pss_nil)
      (pss_one (ps_if (PW.pt (pw_and (pt_cmpR op_gtU (pv 3) pe_int (nomark _)) (pw_and1 (pt_not (pt_val (pe_callO (ok_l_with_two (K := K) T) hr (by rfl) (pa_cons (pv 3) (pa_cons (pv 4) (pa_cons (pv 5) pa_nil)))))))))
      (pss_one (ps_ret pe_bl))
      pss_nil)))))))))
      (pss_one (ps_ret pe_bl))), ?_⟩
  walk_at "yy"
  rw [List.length_map]
  walk_at "yy"
  refine y_forR (fun i σ H => ∃ (B1 : Hp), (∃ (y1 y2 y3 y4 y5 : Option V), σ = [some (.ref a), y1, y2, y3, y4, y5]) ∧ Sy e B1 H [] ∧ Same B B1) ⟨B, ⟨_, _, _, _, _, rfl⟩, S, Same.refl _⟩ ?_ ?_
  · rintro i0 σ H ti ⟨B1, ⟨y1, y2, y3, y4, y5, rfl⟩, S, b1⟩
    walk_at "yn"
    refine y_cell S (up_l b1 hq) (by omega) fun c H S => ?_
    walk_at "yn"
    refine y_bag S (by omega) (by omega) fun bg o H hb0 hb S => ?_
    walk_at "yn"
    refine y_drawN 0 S rfl hb (by omega) (by omega) (by omega) fun wh o H wh0 wh1 hb S => ?_
    try simp only [List.set] at S
    walk_at "yn"
    refine y_spN 0 S rfl ⟨bg, o, 1000, rfl, rfl, hb.mono (by decide), fun v o B2 hv hb b2 H T => ?_⟩
    replace S := S.backN1 0 rfl T
    clear T
    try simp only [List.set] at S
    walk_at "yn"
    refine y_spN 0 S rfl ⟨bg, o, 10, rfl, rfl, hb.mono (by decide), fun u o B3 hu hb b3 H T => ?_⟩
    replace S := S.backN1 0 rfl T
    clear T
    try simp only [List.set] at S
    walk_at "yn"
    replace S := S.tail
    have hv3 := Th.up b3 hv
    refine y_ifS ?_
    refine y_cutT (R := fun b H => b = false ∧ ∃ B6, Same B3 B6 ∧ Sy e B6 H []) (fun Q' hQ => ?_) (fun b6 H hR => ?_)
    · walk_at "yy"
      refine y_ite (fun h => ?_) (fun h => ?_)
      · walk_at "yy"
        refine y_sp0 S ⟨wh, rfl, rfl, wh0, (by omega), fun B5 b5 H T => ?_⟩
        replace S := S.back0 T
        clear T
        walk_at "yn"
        walk_at "yy"
        exact hQ _ _ ⟨rfl, _, b5, S⟩
      · walk_at "yy"
        exact hQ _ _ ⟨rfl, _, Same.refl _, S⟩
    obtain ⟨rfl, B4, hB4, S⟩ := hR
    walk_at "yn"
    refine y_ifS ?_
    refine y_cutT (R := fun b H => b = false ∧ ∃ B6, Same B4 B6 ∧ Sy e B6 H []) (fun Q' hQ => ?_) (fun b6 H hR => ?_)
    · walk_at "yy"
      refine y_ite (fun h => ?_) (fun h => ?_)
      · walk_at "yy"
        refine y_ite (fun h2 => ?_) (fun h2 => ?_)
        · walk_at "yy"
          refine y_sp0 S ⟨wh, v, rfl, rfl, (by omega), (by omega), (Th.up hB4 hv3), fun B5 b5 H T => ?_⟩
          replace S := S.back0 T
          clear T
          walk_at "yn"
          walk_at "yy"
          exact hQ _ _ ⟨rfl, _, b5, S⟩
        · walk_at "yy"
          exact hQ _ _ ⟨rfl, _, Same.refl _, S⟩
      · walk_at "yy"
        exact hQ _ _ ⟨rfl, _, Same.refl _, S⟩
    obtain ⟨rfl, B7, hB7, S⟩ := hR
    walk_at "yn"
    refine y_ifS ?_
    refine y_cutT (R := fun b H => b = false ∧ ∃ B6, Same B7 B6 ∧ Sy e B6 H []) (fun Q' hQ => ?_) (fun b6 H hR => ?_)
    · walk_at "yy"
      refine y_ite (fun h => ?_) (fun h => ?_)
      · walk_at "yy"
        refine y_sp0 S ⟨wh, v, u, rfl, rfl, (by omega), (by omega), (Th.up (hB4.trans hB7) hv3), (Th.up (hB4.trans hB7) hu), fun B5 b5 H T => ?_⟩
        replace S := S.back0 T
        clear T
        walk_at "yn"
        walk_at "yy"
        exact hQ _ _ ⟨rfl, _, b5, S⟩
      · walk_at "yy"
        exact hQ _ _ ⟨rfl, _, Same.refl _, S⟩
    obtain ⟨rfl, B8, hB8, S⟩ := hR
    walk_at "yn"
    exact ⟨_, ⟨_, _, _, _, _, rfl⟩, S, b1.trans (b2.trans (b3.trans (hB4.trans (hB7.trans hB8))))⟩
  · rintro σ H ⟨B1, ⟨y1, y2, y3, y4, y5, rfl⟩, S, b1⟩
    walk_at "yy"
    exact k _ b1 _ S

theorem fin {h : Heap} {fa : Addr} (X : K.In h) (G : h.Ns mainGlobals mg) (hmg : mg "law" = some (.ref fa)) (T : Tx K mg) :
    ∃ (K : PySem.W.Frag) (fd : FuncData) (sp : Sp), K.In h ∧ (∀ (s : Shared) (u : Value), BindsTo s fd ⟨[u], []⟩ [("script", u)]) ∧
      (∀ (H : Hp) (a : Addr) (ns : List Int), ns.length ≤ 63 → Only H → SqL K H a (ns.map V.int) → sp [.ref a] H (fun v _ => v = .bl true) fun _ _ _ => False) ∧
        ∀ base : Heap, K.In base → base.Ns mainGlobals mg → FnOk P w K mg base CX0 5 fa fd ["script"] sp := by
  obtain ⟨fd, F⟩ := T.F_law
  have e := hmg.symm.trans T.g_law
  cases e
  have b := FunD.bindsA (ps := ["script"]) F (fun _ _ _ _ _ _ us hl => match us, hl with | [_], _ => rfl)
  exact ⟨K, fd, spY (φ_law K), X, fun s u => b s [u] rfl, fun H a ns hl _ hS => ⟨H, [], ⟨Sub.refl H, fun p hp => (by cases hp), by simp, fun p hp => (by cases hp)⟩, a, ns, rfl, rfl, hS, hl, fun B' _ H' _ => rfl⟩, fun base _ _ => fn_law T fd F⟩

end
def d_NoKey___init__ : He.DefD := ⟨("NoKey", some "__init__"), "__init__", "NoKey.__init__", defArgs s_NoKey___init__, defBody s_NoKey___init__, defScope s_NoKey___init__, [], []⟩
def d_NoDealing___init__ : He.DefD := ⟨("NoDealing", some "__init__"), "__init__", "NoDealing.__init__", defArgs s_NoDealing___init__, defBody s_NoDealing___init__, defScope s_NoDealing___init__, [], []⟩
def d_Clash___init__ : He.DefD := ⟨("Clash", some "__init__"), "__init__", "Clash.__init__", defArgs s_Clash___init__, defBody s_Clash___init__, defScope s_Clash___init__, [], []⟩
def d_Late___init__ : He.DefD := ⟨("Late", some "__init__"), "__init__", "Late.__init__", defArgs s_Late___init__, defBody s_Late___init__, defScope s_Late___init__, [], []⟩
def d_NoSuch___init__ : He.DefD := ⟨("NoSuch", some "__init__"), "__init__", "NoSuch.__init__", defArgs s_NoSuch___init__, defBody s_NoSuch___init__, defScope s_NoSuch___init__, [], []⟩
def d_Ring___init__ : He.DefD := ⟨("Ring", some "__init__"), "__init__", "Ring.__init__", defArgs s_Ring___init__, defBody s_Ring___init__, defScope s_Ring___init__, [], []⟩
def d_Undone___init__ : He.DefD := ⟨("Undone", some "__init__"), "__init__", "Undone.__init__", defArgs s_Undone___init__, defBody s_Undone___init__, defScope s_Undone___init__, [], []⟩
def d_Taken___init__ : He.DefD := ⟨("Taken", some "__init__"), "__init__", "Taken.__init__", defArgs s_Taken___init__, defBody s_Taken___init__, defScope s_Taken___init__, [], []⟩
def d_NoSlot___init__ : He.DefD := ⟨("NoSlot", some "__init__"), "__init__", "NoSlot.__init__", defArgs s_NoSlot___init__, defBody s_NoSlot___init__, defScope s_NoSlot___init__, [], []⟩
def d_NoReader___init__ : He.DefD := ⟨("NoReader", some "__init__"), "__init__", "NoReader.__init__", defArgs s_NoReader___init__, defBody s_NoReader___init__, defScope s_NoReader___init__, [], []⟩
def d_l_cell_at : He.DefD := ⟨("_law_cell_at", none), "_law_cell_at", "_law_cell_at", defArgs s_l_cell_at, defBody s_l_cell_at, defScope s_l_cell_at, [], []⟩
def d_l_stir : He.DefD := ⟨("_law_stir", none), "_law_stir", "_law_stir", defArgs s_l_stir, defBody s_l_stir, defScope s_l_stir, [], []⟩
def d_l_well : He.DefD := ⟨("_law_well", none), "_law_well", "_law_well", defArgs s_l_well, defBody s_l_well, defScope s_l_well, [], []⟩
def d_l_draw : He.DefD := ⟨("_law_draw", none), "_law_draw", "_law_draw", defArgs s_l_draw, defBody s_l_draw, defScope s_l_draw, [], []⟩
def d_l_thing : He.DefD := ⟨("_law_thing", none), "_law_thing", "_law_thing", defArgs s_l_thing, defBody s_l_thing, defScope s_l_thing, [], []⟩
def d_l_same : He.DefD := ⟨("_law_same", none), "_law_same", "_law_same", defArgs s_l_same, defBody s_l_same, defScope s_l_same, [], []⟩
def d_l_of : He.DefD := ⟨("_law_of", none), "_law_of", "_law_of", defArgs s_l_of, defBody s_l_of, defScope s_l_of, [], []⟩
def d_l_plain : He.DefD := ⟨("_law_plain", none), "_law_plain", "_law_plain", defArgs s_l_plain, defBody s_l_plain, defScope s_l_plain, [], []⟩
def d_l_with_one : He.DefD := ⟨("_law_with_one", none), "_law_with_one", "_law_with_one", defArgs s_l_with_one, defBody s_l_with_one, defScope s_l_with_one, [], []⟩
def d_l_with_two : He.DefD := ⟨("_law_with_two", none), "_law_with_two", "_law_with_two", defArgs s_l_with_two, defBody s_l_with_two, defScope s_l_with_two, [], []⟩
def d_law : He.DefD := ⟨("law", none), "law", "law", defArgs s_law, defBody s_law, defScope s_law, [], []⟩
def fnL : List He.DefD := [d_NoKey___init__, d_NoDealing___init__, d_Clash___init__, d_Late___init__, d_NoSuch___init__, d_Ring___init__, d_Undone___init__, d_Taken___init__, d_NoSlot___init__, d_NoReader___init__, d_l_cell_at, d_l_stir, d_l_well, d_l_draw, d_l_thing, d_l_same, d_l_of, d_l_plain, d_l_with_one, d_l_with_two, d_law]
def faL : List He.Fa := [.glo "_law_cell_at", .glo "_law_stir", .glo "_law_well", .glo "_law_draw", .glo "_law_thing", .glo "_law_same", .glo "_law_of", .glo "_law_plain", .glo "_law_with_one", .glo "_law_with_two", .glo "law", .free "ValueError", .free "bool", .free "isinstance", .free "len", .free "max", .free "min", .free "range", .glo "HouseError", .exc "HouseError", .glo "NoKey", .noat "NoKey" "key", .meth "NoKey" "__init__", .glo "NoWorth", .exc "NoWorth", .glo "NoText", .exc "NoText", .glo "NoLevel", .exc "NoLevel", .glo "NoDealing", .noat "NoDealing" "dealing", .meth "NoDealing" "__init__", .glo "Clash", .noat "Clash" "key", .noat "Clash" "dealing", .meth "Clash" "__init__", .glo "Late", .noat "Late" "key", .noat "Late" "dealing", .meth "Late" "__init__", .glo "NoSuch", .noat "NoSuch" "key", .meth "NoSuch" "__init__", .glo "Ring", .noat "Ring" "dealings", .meth "Ring" "__init__", .glo "Undone", .noat "Undone" "at", .noat "Undone" "dealing", .meth "Undone" "__init__", .glo "NoPage", .exc "NoPage", .glo "Taken", .noat "Taken" "name", .meth "Taken" "__init__", .glo "NoSlot", .noat "NoSlot" "name", .meth "NoSlot" "__init__", .glo "NoReader", .noat "NoReader" "reader", .meth "NoReader" "__init__", .glo "Left", .exc "Left"]
abbrev R : PySem.W.OpenRow := PySem.W.OpenLaw.row PySem.Challenge.rw_slotkeep_k71_refusals_made
def exL : List (PySem.W.Frag → Bool) := [fun K => xisB K ["NoKey", "NoWorth", "NoText", "NoLevel", "NoDealing", "Clash", "Late", "NoSuch", "Ring", "Undone", "NoPage", "Taken", "NoSlot", "NoReader", "Left"] "HouseError", fun K => xclsB K (He.ga K "HouseError"), fun K => xclsB K (He.ga K "NoKey"), fun K => xtyB K (He.ma K (He.ga K "NoKey") "__init__"), fun K => xclsB K (He.ga K "NoWorth"), fun K => xclsB K (He.ga K "NoText"), fun K => xclsB K (He.ga K "NoLevel"), fun K => xclsB K (He.ga K "NoDealing"), fun K => xtyB K (He.ma K (He.ga K "NoDealing") "__init__"), fun K => xclsB K (He.ga K "Clash"), fun K => xtyB K (He.ma K (He.ga K "Clash") "__init__"), fun K => xclsB K (He.ga K "Late"), fun K => xtyB K (He.ma K (He.ga K "Late") "__init__"), fun K => xclsB K (He.ga K "NoSuch"), fun K => xtyB K (He.ma K (He.ga K "NoSuch") "__init__"), fun K => xclsB K (He.ga K "Ring"), fun K => xtyB K (He.ma K (He.ga K "Ring") "__init__"), fun K => xclsB K (He.ga K "Undone"), fun K => xtyB K (He.ma K (He.ga K "Undone") "__init__"), fun K => xclsB K (He.ga K "NoPage"), fun K => xclsB K (He.ga K "Taken"), fun K => xtyB K (He.ma K (He.ga K "Taken") "__init__"), fun K => xclsB K (He.ga K "NoSlot"), fun K => xtyB K (He.ma K (He.ga K "NoSlot") "__init__"), fun K => xclsB K (He.ga K "NoReader"), fun K => xtyB K (He.ma K (He.ga K "NoReader") "__init__"), fun K => xclsB K (He.ga K "Left")]
def exB (K : PySem.W.Frag) : Bool := exL.all fun f => f K
abbrev hk : PySem.W.Hook := He.hookX 4 faL fnL [] [] exB
def ob (s : PySem.W.SharedT) : He.AlX := He.obsX 4 faL fnL [] [] exB (HandSHeadRun.getT s)
theorem ob_eq (s : PySem.W.SharedT) : ob s = hk.obs s.abs := He.obsX_eq (HandSHeadRun.getT_eq s)
theorem exAt {K : PySem.W.Frag} (h : exB K = true) (i : Nat) {f : PySem.W.Frag → Bool} (e : exL[i]? = some f) : f K = true := List.all_eq_true.mp h f (List.mem_of_getElem? e)
def looseL : List PySem.Str := (["HouseError", "NoKey", "NoWorth", "NoText", "NoLevel", "NoDealing", "Clash", "Late", "NoSuch", "Ring", "Undone", "NoPage", "Taken", "NoSlot", "NoReader", "Left", "_law_cell_at", "_law_stir", "_law_well", "_law_draw", "_law_thing", "_law_same", "_law_of", "_law_plain", "_law_with_one", "_law_with_two"] : List PySem.Str)
theorem run (w : World) : HandSHeadRun.RunEq R (PySem.W.view R.prog [28]) hk ob 6000 looseL w := by
  intro os
  kernel_rfl
theorem tx {K : PySem.W.Frag} {h h2 : Heap} {w : World} {mg : Str → Option Value} (X : K.In h) (G : h.Ns mainGlobals mg) (c : He.SaysX faL fnL [] [] exB w h2 K) : Tx K mg where
  F_NoKey___init__ := c.t.d.def_ 0 (d := d_NoKey___init__) rfl
  F_NoDealing___init__ := c.t.d.def_ 1 (d := d_NoDealing___init__) rfl
  F_Clash___init__ := c.t.d.def_ 2 (d := d_Clash___init__) rfl
  F_Late___init__ := c.t.d.def_ 3 (d := d_Late___init__) rfl
  F_NoSuch___init__ := c.t.d.def_ 4 (d := d_NoSuch___init__) rfl
  F_Ring___init__ := c.t.d.def_ 5 (d := d_Ring___init__) rfl
  F_Undone___init__ := c.t.d.def_ 6 (d := d_Undone___init__) rfl
  F_Taken___init__ := c.t.d.def_ 7 (d := d_Taken___init__) rfl
  F_NoSlot___init__ := c.t.d.def_ 8 (d := d_NoSlot___init__) rfl
  F_NoReader___init__ := c.t.d.def_ 9 (d := d_NoReader___init__) rfl
  F_l_cell_at := c.t.d.def_ 10 (d := d_l_cell_at) rfl
  g_l_cell_at := He.glo_ok X G (c.t.d.fact 0 (f := .glo "_law_cell_at") rfl)
  F_l_stir := c.t.d.def_ 11 (d := d_l_stir) rfl
  g_l_stir := He.glo_ok X G (c.t.d.fact 1 (f := .glo "_law_stir") rfl)
  F_l_well := c.t.d.def_ 12 (d := d_l_well) rfl
  g_l_well := He.glo_ok X G (c.t.d.fact 2 (f := .glo "_law_well") rfl)
  F_l_draw := c.t.d.def_ 13 (d := d_l_draw) rfl
  g_l_draw := He.glo_ok X G (c.t.d.fact 3 (f := .glo "_law_draw") rfl)
  F_l_thing := c.t.d.def_ 14 (d := d_l_thing) rfl
  g_l_thing := He.glo_ok X G (c.t.d.fact 4 (f := .glo "_law_thing") rfl)
  F_l_same := c.t.d.def_ 15 (d := d_l_same) rfl
  g_l_same := He.glo_ok X G (c.t.d.fact 5 (f := .glo "_law_same") rfl)
  F_l_of := c.t.d.def_ 16 (d := d_l_of) rfl
  g_l_of := He.glo_ok X G (c.t.d.fact 6 (f := .glo "_law_of") rfl)
  F_l_plain := c.t.d.def_ 17 (d := d_l_plain) rfl
  g_l_plain := He.glo_ok X G (c.t.d.fact 7 (f := .glo "_law_plain") rfl)
  F_l_with_one := c.t.d.def_ 18 (d := d_l_with_one) rfl
  g_l_with_one := He.glo_ok X G (c.t.d.fact 8 (f := .glo "_law_with_one") rfl)
  F_l_with_two := c.t.d.def_ 19 (d := d_l_with_two) rfl
  g_l_with_two := He.glo_ok X G (c.t.d.fact 9 (f := .glo "_law_with_two") rfl)
  F_law := c.t.d.def_ 20 (d := d_law) rfl
  g_law := He.glo_ok X G (c.t.d.fact 10 (f := .glo "law") rfl)
  n_ValueError := He.free_ok X G (c.t.d.fact 11 (f := .free "ValueError") rfl)
  n_bool := He.free_ok X G (c.t.d.fact 12 (f := .free "bool") rfl)
  n_isinstance := He.free_ok X G (c.t.d.fact 13 (f := .free "isinstance") rfl)
  n_len := He.free_ok X G (c.t.d.fact 14 (f := .free "len") rfl)
  n_max := He.free_ok X G (c.t.d.fact 15 (f := .free "max") rfl)
  n_min := He.free_ok X G (c.t.d.fact 16 (f := .free "min") rfl)
  n_range := He.free_ok X G (c.t.d.fact 17 (f := .free "range") rfl)
  g_HouseError := He.glo_ok X G (c.t.d.fact 18 (f := .glo "HouseError") rfl)
  xp_HouseError := He.exc_ok (c.t.d.fact 19 (f := .exc "HouseError") rfl)
  g_NoKey := He.glo_ok X G (c.t.d.fact 20 (f := .glo "NoKey") rfl)
  na_NoKey_key := He.noat_ok (c.t.d.fact 21 (f := .noat "NoKey" "key") rfl)
  me_NoKey___init__ := He.meth_ok (c.t.d.fact 22 (f := .meth "NoKey" "__init__") rfl)
  g_NoWorth := He.glo_ok X G (c.t.d.fact 23 (f := .glo "NoWorth") rfl)
  xp_NoWorth := He.exc_ok (c.t.d.fact 24 (f := .exc "NoWorth") rfl)
  g_NoText := He.glo_ok X G (c.t.d.fact 25 (f := .glo "NoText") rfl)
  xp_NoText := He.exc_ok (c.t.d.fact 26 (f := .exc "NoText") rfl)
  g_NoLevel := He.glo_ok X G (c.t.d.fact 27 (f := .glo "NoLevel") rfl)
  xp_NoLevel := He.exc_ok (c.t.d.fact 28 (f := .exc "NoLevel") rfl)
  g_NoDealing := He.glo_ok X G (c.t.d.fact 29 (f := .glo "NoDealing") rfl)
  na_NoDealing_dealing := He.noat_ok (c.t.d.fact 30 (f := .noat "NoDealing" "dealing") rfl)
  me_NoDealing___init__ := He.meth_ok (c.t.d.fact 31 (f := .meth "NoDealing" "__init__") rfl)
  g_Clash := He.glo_ok X G (c.t.d.fact 32 (f := .glo "Clash") rfl)
  na_Clash_key := He.noat_ok (c.t.d.fact 33 (f := .noat "Clash" "key") rfl)
  na_Clash_dealing := He.noat_ok (c.t.d.fact 34 (f := .noat "Clash" "dealing") rfl)
  me_Clash___init__ := He.meth_ok (c.t.d.fact 35 (f := .meth "Clash" "__init__") rfl)
  g_Late := He.glo_ok X G (c.t.d.fact 36 (f := .glo "Late") rfl)
  na_Late_key := He.noat_ok (c.t.d.fact 37 (f := .noat "Late" "key") rfl)
  na_Late_dealing := He.noat_ok (c.t.d.fact 38 (f := .noat "Late" "dealing") rfl)
  me_Late___init__ := He.meth_ok (c.t.d.fact 39 (f := .meth "Late" "__init__") rfl)
  g_NoSuch := He.glo_ok X G (c.t.d.fact 40 (f := .glo "NoSuch") rfl)
  na_NoSuch_key := He.noat_ok (c.t.d.fact 41 (f := .noat "NoSuch" "key") rfl)
  me_NoSuch___init__ := He.meth_ok (c.t.d.fact 42 (f := .meth "NoSuch" "__init__") rfl)
  g_Ring := He.glo_ok X G (c.t.d.fact 43 (f := .glo "Ring") rfl)
  na_Ring_dealings := He.noat_ok (c.t.d.fact 44 (f := .noat "Ring" "dealings") rfl)
  me_Ring___init__ := He.meth_ok (c.t.d.fact 45 (f := .meth "Ring" "__init__") rfl)
  g_Undone := He.glo_ok X G (c.t.d.fact 46 (f := .glo "Undone") rfl)
  na_Undone_at := He.noat_ok (c.t.d.fact 47 (f := .noat "Undone" "at") rfl)
  na_Undone_dealing := He.noat_ok (c.t.d.fact 48 (f := .noat "Undone" "dealing") rfl)
  me_Undone___init__ := He.meth_ok (c.t.d.fact 49 (f := .meth "Undone" "__init__") rfl)
  g_NoPage := He.glo_ok X G (c.t.d.fact 50 (f := .glo "NoPage") rfl)
  xp_NoPage := He.exc_ok (c.t.d.fact 51 (f := .exc "NoPage") rfl)
  g_Taken := He.glo_ok X G (c.t.d.fact 52 (f := .glo "Taken") rfl)
  na_Taken_name := He.noat_ok (c.t.d.fact 53 (f := .noat "Taken" "name") rfl)
  me_Taken___init__ := He.meth_ok (c.t.d.fact 54 (f := .meth "Taken" "__init__") rfl)
  g_NoSlot := He.glo_ok X G (c.t.d.fact 55 (f := .glo "NoSlot") rfl)
  na_NoSlot_name := He.noat_ok (c.t.d.fact 56 (f := .noat "NoSlot" "name") rfl)
  me_NoSlot___init__ := He.meth_ok (c.t.d.fact 57 (f := .meth "NoSlot" "__init__") rfl)
  g_NoReader := He.glo_ok X G (c.t.d.fact 58 (f := .glo "NoReader") rfl)
  na_NoReader_reader := He.noat_ok (c.t.d.fact 59 (f := .noat "NoReader" "reader") rfl)
  me_NoReader___init__ := He.meth_ok (c.t.d.fact 60 (f := .meth "NoReader" "__init__") rfl)
  g_Left := He.glo_ok X G (c.t.d.fact 61 (f := .glo "Left") rfl)
  xp_Left := He.exc_ok (c.t.d.fact 62 (f := .exc "Left") rfl)
  xis := xisB_ok (exAt c.more 0 rfl)
  xk_HouseError := xclsB_ok (exAt c.more 1 rfl)
  xk_NoKey := xclsB_ok (exAt c.more 2 rfl)
  xt_NoKey := xtyB_ok (exAt c.more 3 rfl)
  xk_NoWorth := xclsB_ok (exAt c.more 4 rfl)
  xk_NoText := xclsB_ok (exAt c.more 5 rfl)
  xk_NoLevel := xclsB_ok (exAt c.more 6 rfl)
  xk_NoDealing := xclsB_ok (exAt c.more 7 rfl)
  xt_NoDealing := xtyB_ok (exAt c.more 8 rfl)
  xk_Clash := xclsB_ok (exAt c.more 9 rfl)
  xt_Clash := xtyB_ok (exAt c.more 10 rfl)
  xk_Late := xclsB_ok (exAt c.more 11 rfl)
  xt_Late := xtyB_ok (exAt c.more 12 rfl)
  xk_NoSuch := xclsB_ok (exAt c.more 13 rfl)
  xt_NoSuch := xtyB_ok (exAt c.more 14 rfl)
  xk_Ring := xclsB_ok (exAt c.more 15 rfl)
  xt_Ring := xtyB_ok (exAt c.more 16 rfl)
  xk_Undone := xclsB_ok (exAt c.more 17 rfl)
  xt_Undone := xtyB_ok (exAt c.more 18 rfl)
  xk_NoPage := xclsB_ok (exAt c.more 19 rfl)
  xk_Taken := xclsB_ok (exAt c.more 20 rfl)
  xt_Taken := xtyB_ok (exAt c.more 21 rfl)
  xk_NoSlot := xclsB_ok (exAt c.more 22 rfl)
  xt_NoSlot := xtyB_ok (exAt c.more 23 rfl)
  xk_NoReader := xclsB_ok (exAt c.more 24 rfl)
  xt_NoReader := xtyB_ok (exAt c.more 25 rfl)
  xk_Left := xclsB_ok (exAt c.more 26 rfl)
end K71
open PySem PySem.W PySem.Calls PyProof.Rows
theorem PySem.Challenge.cw_slotkeep_k71_refusals_made_holds : PySem.Challenge.rw_slotkeep_k71_refusals_made.Holds := by
  w_on; o_law
  refine HandSHeadRun.head_any (r := OpenLaw.row PySem.Challenge.rw_slotkeep_k71_refusals_made) (q := view (OpenLaw.row PySem.Challenge.rw_slotkeep_k71_refusals_made).prog [28]) (H := K71.hk) (ob := K71.ob) (M := 6000) (loose := K71.looseL) (d := HandSHeadRun.topDef (OpenLaw.row PySem.Challenge.rw_slotkeep_k71_refusals_made).prog 28) (kwd := []) K71.ob_eq
    (by kernel_rfl) (fun s => by kernel_rfl) K71.run (by kernel_rfl) (by kernel_rfl) (by kernel_rfl) (by rfl) (by first | assumption | decide +kernel) (by decide +kernel) ⟨rfl, rfl, rfl, rfl, rfl, by decide +kernel⟩ ?hw ?hc
  case hw => w_witness2
  case hc =>
    refine L2.walk_ofE (l := PySem.Challenge.rw_slotkeep_k71_refusals_made) (n := 63) (k := 5) (x := "script") (CX := L2.CX0) rfl (by decide) (by kernel_rfl) ⟨rfl, by decide, by decide⟩ ?F (fun _ _ _ _ z => z)
    intro w mg fa h Y G hmg0
    obtain ⟨K, KX, c⟩ := Y
    have hmg : mg ("law" : PySem.Str) = some (.ref fa) := by
      have e : (HandSHeadRun.topDef (OpenLaw.row PySem.Challenge.rw_slotkeep_k71_refusals_made).prog 28).name = ("law" : PySem.Str) := by kernel_rfl
      rw [← e]
      exact hmg0
    exact K71.fin (P := (PySem.Challenge.rw_slotkeep_k71_refusals_made).prog) (w := w) KX G hmg (K71.tx KX G c)
