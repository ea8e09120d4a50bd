import PyProof.Rows.All
import Wide.All
import OpenK.AllK
import Wide.FinOn
import HandS.ForMost
import HandS.Walk
import HandS.Wide
import HandS.DeepEq
import HandS.DictComp
import KE.KEqNest
import PyProof.NeKinds
import HandS.SortRule
import HandS.SortInts
import HandS.Defaults
import HandS.Flow
import HandS.Head0
import HandS.Head1
import HandS.Head2
import HandS.HeadEnd
import HandS.HeadHook1
import HandS.HeadHook2
import HandS.More
import KE.DataMinMax
import PyProof.DictWalks
import HandS.IsInst
import OpenK.KEqL
import PySem.Challenge.RW_slotkeep_k06_whole_chains_of_dealings_in
set_option Elab.async false
set_option linter.all false
set_option maxRecDepth 100000
set_option maxHeartbeats 4000000
/-! The symbolic state over the hand layer: a ghost base B (what is never changed again), the heap H, a ledger L of what may be changed. -/
namespace Y
open PySem PySem.Spec PyProof.Rows L2

abbrev Led := List (Addr × HO)

/-- a dict -/
def Dk : HO → Prop
  | .dK _ => True
  | .dT _ => True
  | _ => False
/-- what stands in B stands in H, a dict locked perhaps -/
def Sub (B H : Hp) : Prop := ∀ a o, B a = some o → H a = some o ∨ (Dk o ∧ ∃ ob, H a = some (.frz ob o))

/-- the entry: what may change (M), what is locked since (Z), the base, the heap -/
structure En where
  M : List Addr
  Z : List (Addr × Obj × HO)
  B : Hp
  H : Hp

structure Sy (e : En) (B H : Hp) (L : Led) : Prop where
  b0 : Same e.B B
  bh : Sub B H
  led : ∀ p ∈ L, H p.1 = some p.2 ∧ B p.1 = none ∧ (p.1 ∈ e.M ∨ e.H p.1 = none) ∧ p.1 ∉ e.Z.map (·.1)
  nd : (L.map (·.1)).Nodup
  keep : ∀ a o, a ∉ e.M → a ∉ e.Z.map (·.1) → e.H a = some o → H a = some o
  fresh : ∀ a, e.H a ≠ none → e.B a = none → B a = none
  there : ∀ a, e.H a ≠ none → H a ≠ none
  zin : ∀ p ∈ e.Z, H p.1 = some (.frz p.2.1 p.2.2)
  lk : ∀ a o, B a = some o → Dk o → H a = some o ∨ a ∈ e.Z.map (·.1) ∨ ∃ ob u, e.H a = some (.frz ob u)

/-- what a caller hands over -/
structure Hand (B H : Hp) (L : Led) : Prop where
  bh : Sub B H
  led : ∀ p ∈ L, H p.1 = some p.2 ∧ B p.1 = none
  nd : (L.map (·.1)).Nodup

theorem Sub.refl (B : Hp) : Sub B B := fun _ _ h => .inl h
theorem Sub.of {B H : Hp} (h : Same B H) : Sub B H := fun a o e => .inl (h a o e)
theorem Sub.after {B B' H : Hp} (s : Same B B') (h : Sub B' H) : Sub B H := fun a o e => h a o (s a o e)


section
variable {e : En} {B B' H H' : Hp} {L R : Led} {a b p : Addr} {o o' u : HO} {K : PySem.W.Frag} {v : V} {dd : PyData} {xs : List V}

theorem Sub.rd (h : Sub B H) (r : Rd B a u) : Rd H a u := by
  rcases r with r | ⟨ob, r⟩
  · rcases h a _ r with q | ⟨_, ob, q⟩
    · exact .inl q
    · exact .inr ⟨ob, q⟩
  · rcases h a _ r with q | ⟨m, _⟩
    · exact .inr ⟨ob, q⟩
    · exact m.elim
theorem Sub.l (h : Sub B H) (r : SqL K B a xs) : SqL K H a xs := by
  rcases r with r | r
  · exact .inl (h.rd r)
  · exact .inr r
theorem Sub.t (h : Sub B H) (r : SqT K B a xs) : SqT K H a xs := by
  rcases r with r | r
  · exact .inl (h.rd r)
  · exact .inr r
theorem Sub.tup (h : Sub B H) (r : B a = some (.tup xs)) : H a = some (.tup xs) := by
  rcases h a _ r with q | ⟨m, _⟩
  · exact q
  · exact m.elim
theorem Sub.lst (h : Sub B H) (r : B a = some (.lst xs)) : H a = some (.lst xs) := by
  rcases h a _ r with q | ⟨m, _⟩
  · exact q
  · exact m.elim
theorem Sub.ins {C dx : Addr} {fs : List (Str × V)} (h : Sub B H) (r : B a = some (.ins C dx fs)) : H a = some (.ins C dx fs) := by
  rcases h a _ r with q | ⟨m, _⟩
  · exact q
  · exact m.elim

mutual
theorem Sub.d (h : Sub B H) : ∀ {d : PyData} {v : V}, Dp K B v d → Dp K H v d
  | _, _, .non => .non
  | _, _, .bl b => .bl b
  | _, _, .int i => .int i
  | _, _, .str x => .str x
  | _, _, .lst r q => .lst (h.l r) (Sub.ds h q)
  | _, _, .tup r q => .tup (h.t r) (Sub.ds h q)
theorem Sub.ds (h : Sub B H) : ∀ {ds : List PyData} {vs : List V}, DpAll K B vs ds → DpAll K H vs ds
  | _, _, .nil => .nil
  | _, _, .cons r q => .cons (Sub.d h r) (Sub.ds h q)
end
theorem Sub.of' (h : Same B B') : Sub B B' := Sub.of h
theorem up_d (h : Same B B') (r : Dp K B v dd) : Dp K B' v dd := Sub.d (Sub.of h) r
theorem up_l (h : Same B B') (r : SqL K B a xs) : SqL K B' a xs := (Sub.of h).l r
theorem up_t (h : Same B B') (r : SqT K B a xs) : SqT K B' a xs := (Sub.of h).t r
theorem up_o (h : Same B B') (r : B a = some o) : B' a = some o := h a o r

theorem Hand.start (h : Hand B H L) : Sy ⟨L.map (·.1), [], B, H⟩ B H L :=
  ⟨Same.refl B, h.bh, fun p hp => ⟨(h.led p hp).1, (h.led p hp).2, .inl (List.mem_map.mpr ⟨p, hp, rfl⟩), by simp⟩, h.nd, fun _ _ _ _ q => q, fun _ _ q => q, fun _ q => q, fun _ q => absurd q (by simp), fun a o q hk => (h.bh a o q).elim .inl fun z => .inr (.inr ⟨_, _, z.2.choose_spec⟩)⟩

/-- only some of the ledger -/
theorem Sy.sub (S : Sy e B H L) {L' : Led} (h : L'.Sublist L) : Sy e B H L' :=
  ⟨S.b0, S.bh, fun p hp => S.led p (h.subset hp), S.nd.sublist (h.map _), S.keep, S.fresh, S.there, S.zin, S.lk⟩
theorem Sy.perm (S : Sy e B H L) {L' : Led} (h : L.Perm L') : Sy e B H L' :=
  ⟨S.b0, S.bh, fun p hp => S.led p (h.mem_iff.mpr hp), (h.map _).nodup_iff.mp S.nd, S.keep, S.fresh, S.there, S.zin, S.lk⟩
theorem Sy.none (S : Sy e B H L) : Sy e B H [] := S.sub (List.nil_sublist _)
theorem Sy.tail {q : Addr × HO} (S : Sy e B H (q :: L)) : Sy e B H L := S.sub (List.sublist_cons_self _ _)
theorem Sy.drop1 {q1 q2 : Addr × HO} (S : Sy e B H (q1 :: q2 :: L)) : Sy e B H (q1 :: L) := S.sub ((List.sublist_cons_self _ _).cons_cons _)
theorem Sy.drop2 {q1 q2 q3 : Addr × HO} (S : Sy e B H (q1 :: q2 :: q3 :: L)) : Sy e B H (q1 :: q2 :: L) := S.sub (((List.sublist_cons_self _ _).cons_cons _).cons_cons _)
theorem Sy.swap {q1 q2 : Addr × HO} (S : Sy e B H (q1 :: q2 :: L)) : Sy e B H (q2 :: q1 :: L) := S.perm (List.Perm.swap _ _ _)

/-- a new thing that is never changed again -/
theorem Sy.newI (S : Sy e B H L) (h : H p = Option.none) : Same B (upd B p o) ∧ Sy e (upd B p o) (upd H p o) L := by
  have hB : B p = Option.none := by
    cases q : B p with
    | none => rfl
    | some x => rcases S.bh p x q with r | ⟨_, _, r⟩ <;> (rw [h] at r; cases r)
  have sb : Same B (upd B p o) := fun a x q => by rw [upd_ne (ne_of_none q hB)]; exact q
  have hH0 : e.H p = Option.none := by
    cases q : e.H p with
    | none => rfl
    | some x => exact absurd h (S.there p (by rw [q]; simp))
  refine ⟨sb, S.b0.trans sb, fun a x q => ?_, fun q hq => ?_, S.nd, fun a x h1 h2 q => ?_, fun a q1 q2 => ?_, fun a q => ?_, fun a q => ?_, fun a x q hk => ?_⟩
  · by_cases ha : a = p
    · subst ha; rw [upd_same] at q; cases q; exact .inl upd_same
    · rw [upd_ne ha] at q
      rw [upd_ne ha]; exact S.bh a x q
  · obtain ⟨q1, q2, q3, q4⟩ := S.led q hq
    have ne : q.1 ≠ p := ne_of_none q1 h
    exact ⟨by rw [upd_ne ne]; exact q1, by rw [upd_ne ne]; exact q2, q3, q4⟩
  · have r := S.keep a x h1 h2 q
    rw [upd_ne (ne_of_none r h)]; exact r
  · have ne : a ≠ p := fun z => by subst z; exact q1 hH0
    rw [upd_ne ne]; exact S.fresh a q1 q2
  · have r := S.there a q
    have ne : a ≠ p := fun z => by subst z; exact r h
    rw [upd_ne ne]; exact r
  · have r := S.zin a q
    rw [upd_ne (ne_of_none r h)]; exact r
  · by_cases ha : a = p
    · subst ha; rw [upd_same] at q; cases q; exact .inl upd_same
    · rw [upd_ne ha] at q
      rw [upd_ne ha]; exact S.lk a x q hk
/-- a new thing that may be changed -/
theorem Sy.newM (S : Sy e B H L) (h : H p = Option.none) : e.H p = Option.none ∧ Sy e B (upd H p o) ((p, o) :: L) := by
  have hB : B p = Option.none := by
    cases q : B p with
    | none => rfl
    | some x => rcases S.bh p x q with r | ⟨_, _, r⟩ <;> (rw [h] at r; cases r)
  have hH0 : e.H p = Option.none := by
    cases q : e.H p with
    | none => rfl
    | some x => exact absurd h (S.there p (by rw [q]; simp))
  refine ⟨hH0, S.b0, fun a x q => ?_, fun q hq => ?_, ?_, fun a x h1 h2 q => ?_, S.fresh, fun a q => ?_, fun a q => ?_, fun a x q hk => ?_⟩
  · rw [upd_ne (ne_of_none q hB)]; exact S.bh a x q
  · rcases List.mem_cons.mp hq with rfl | hq
    · exact ⟨upd_same, hB, .inr hH0, fun z => by
        obtain ⟨q, hq, e1⟩ := List.mem_map.mp z
        have := S.zin q hq
        rw [show q.1 = p from e1, h] at this; cases this⟩
    · obtain ⟨q1, q2, q3, q4⟩ := S.led q hq
      exact ⟨by rw [upd_ne (ne_of_none q1 h)]; exact q1, q2, q3, q4⟩
  · rw [List.map_cons]
    refine List.nodup_cons.mpr ⟨fun hm => ?_, S.nd⟩
    obtain ⟨q, hq, e1⟩ := List.mem_map.mp hm
    have := (S.led q hq).1
    rw [show q.1 = p from e1, h] at this; cases this
  · have r := S.keep a x h1 h2 q
    rw [upd_ne (ne_of_none r h)]; exact r
  · have r := S.there a q
    have ne : a ≠ p := fun z => by subst z; exact r h
    rw [upd_ne ne]; exact r
  · have r := S.zin a q
    rw [upd_ne (ne_of_none r h)]; exact r
  · rw [upd_ne (ne_of_none q hB)]; exact S.lk a x q hk
/-- a new thing that nobody asks any more -/
theorem Sy.newG (S : Sy e B H L) (h : H p = Option.none) : Sy e B (upd H p o) L := by
  have hB : B p = Option.none := by
    cases q : B p with
    | none => rfl
    | some x => rcases S.bh p x q with r | ⟨_, _, r⟩ <;> (rw [h] at r; cases r)
  refine ⟨S.b0, fun a x q => ?_, fun q hq => ?_, S.nd, fun a x h1 h2 q => ?_, S.fresh, fun a q => ?_, fun a q => ?_, fun a x q hk => ?_⟩
  · rw [upd_ne (ne_of_none q hB)]; exact S.bh a x q
  · obtain ⟨q1, q2, q3, q4⟩ := S.led q hq
    exact ⟨by rw [upd_ne (ne_of_none q1 h)]; exact q1, q2, q3, q4⟩
  · have r := S.keep a x h1 h2 q
    rw [upd_ne (ne_of_none r h)]; exact r
  · have r := S.there a q
    have ne : a ≠ p := fun z => by subst z; exact r h
    rw [upd_ne ne]; exact r
  · have r := S.zin a q
    rw [upd_ne (ne_of_none r h)]; exact r
  · rw [upd_ne (ne_of_none q hB)]; exact S.lk a x q hk
/-- the first of the ledger is changed -/
theorem Sy.w0 (S : Sy e B H ((a, o) :: L)) (o' : HO) : Sy e B (upd H a o') ((a, o') :: L) := by
  obtain ⟨q1, q2, q3, q4⟩ := S.led (a, o) List.mem_cons_self
  have hnd := List.nodup_cons.mp (show (a :: L.map (·.1)).Nodup from S.nd)
  refine ⟨S.b0, fun b x q => ?_, fun q hq => ?_, S.nd, fun b x h1 h2 q => ?_, S.fresh, fun b q => ?_, fun b q => ?_, fun b x q hk => ?_⟩
  · rw [upd_ne (ne_of_none q q2)]; exact S.bh b x q
  · rcases List.mem_cons.mp hq with rfl | hq
    · exact ⟨upd_same, q2, q3, q4⟩
    · obtain ⟨r1, r2, r3, r4⟩ := S.led q (List.mem_cons_of_mem _ hq)
      have ne : q.1 ≠ a := fun z => hnd.1 (List.mem_map.mpr ⟨q, hq, z⟩)
      exact ⟨by rw [upd_ne ne]; exact r1, r2, r3, r4⟩
  · have r := S.keep b x h1 h2 q
    have ne : b ≠ a := fun z => by
      subst z
      rcases q3 with z | z
      · exact h1 z
      · rw [show (b, o).1 = b from rfl] at z; rw [q] at z; cases z
    rw [upd_ne ne]; exact r
  · by_cases hb : b = a
    · subst hb; rw [upd_same]; simp
    · rw [upd_ne hb]; exact S.there b q
  · have ne : b.1 ≠ a := fun z => q4 (List.mem_map.mpr ⟨b, q, z⟩)
    rw [upd_ne ne]; exact S.zin b q
  · rw [upd_ne (ne_of_none q q2)]; exact S.lk b x q hk
theorem Sy.w1 {q : Addr × HO} (S : Sy e B H (q :: (a, o) :: L)) (o' : HO) : Sy e B (upd H a o') (q :: (a, o') :: L) := (S.swap.w0 o').swap
theorem Sy.rot {q1 q2 q3 : Addr × HO} (S : Sy e B H (q1 :: q2 :: q3 :: L)) : Sy e B H (q3 :: q1 :: q2 :: L) := S.perm ((List.Perm.swap _ _ _).cons _ |>.trans (List.Perm.swap _ _ _))
theorem Sy.unrot {q1 q2 q3 : Addr × HO} (S : Sy e B H (q3 :: q1 :: q2 :: L)) : Sy e B H (q1 :: q2 :: q3 :: L) := S.perm ((List.Perm.swap _ _ _).trans ((List.Perm.swap _ _ _).cons _))
theorem Sy.w2 {q1 q2 : Addr × HO} (S : Sy e B H (q1 :: q2 :: (a, o) :: L)) (o' : HO) : Sy e B (upd H a o') (q1 :: q2 :: (a, o') :: L) := (S.rot.w0 o').unrot
theorem Sy.rot4 {q1 q2 q3 q4 : Addr × HO} (S : Sy e B H (q1 :: q2 :: q3 :: q4 :: L)) : Sy e B H (q4 :: q1 :: q2 :: q3 :: L) :=
  S.perm ((((List.Perm.swap _ _ _).cons _).cons _).trans (((List.Perm.swap _ _ _).cons _).trans (List.Perm.swap _ _ _)))
theorem Sy.unrot4 {q1 q2 q3 q4 : Addr × HO} (S : Sy e B H (q4 :: q1 :: q2 :: q3 :: L)) : Sy e B H (q1 :: q2 :: q3 :: q4 :: L) :=
  S.perm ((List.Perm.swap _ _ _).trans (((List.Perm.swap _ _ _).cons _).trans (((List.Perm.swap _ _ _).cons _).cons _)))
theorem Sy.w3 {q1 q2 q3 : Addr × HO} (S : Sy e B H (q1 :: q2 :: q3 :: (a, o) :: L)) (o' : HO) : Sy e B (upd H a o') (q1 :: q2 :: q3 :: (a, o') :: L) := (S.rot4.w0 o').unrot4
theorem Sy.g0 (S : Sy e B H ((a, o) :: L)) : H a = some o := (S.led _ List.mem_cons_self).1
theorem Sy.g1 {q : Addr × HO} (S : Sy e B H (q :: (a, o) :: L)) : H a = some o := S.tail.g0
theorem Sy.g2 {q1 q2 : Addr × HO} (S : Sy e B H (q1 :: q2 :: (a, o) :: L)) : H a = some o := S.tail.tail.g0
theorem Sy.g3 {q1 q2 q3 : Addr × HO} (S : Sy e B H (q1 :: q2 :: q3 :: (a, o) :: L)) : H a = some o := S.tail.tail.tail.g0
/-- the first of the ledger is changed no more -/
theorem Sy.freeze (S : Sy e B H ((a, o) :: L)) (h : e.H a = Option.none) : Same B (upd B a o) ∧ Sy e (upd B a o) H L := by
  obtain ⟨q1, q2, q3, q4⟩ := S.led (a, o) List.mem_cons_self
  have hnd := List.nodup_cons.mp (show (a :: L.map (·.1)).Nodup from S.nd)
  have sb : Same B (upd B a o) := fun b x q => by rw [upd_ne (ne_of_none q q2)]; exact q
  refine ⟨sb, S.b0.trans sb, fun b x q => ?_, fun q hq => ?_, hnd.2, S.keep, fun b r1 r2 => ?_, S.there, S.zin, fun b x q hk => ?_⟩
  · by_cases hb : b = a
    · subst hb; rw [upd_same] at q; cases q; exact .inl q1
    · rw [upd_ne hb] at q; exact S.bh b x q
  · obtain ⟨r1, r2, r3, r4⟩ := S.led q (List.mem_cons_of_mem _ hq)
    have ne : q.1 ≠ a := fun z => hnd.1 (List.mem_map.mpr ⟨q, hq, z⟩)
    exact ⟨r1, by rw [upd_ne ne]; exact r2, r3, r4⟩
  · have ne : b ≠ a := fun z => by subst z; exact r1 h
    rw [upd_ne ne]; exact S.fresh b r1 r2
  · by_cases hb : b = a
    · subst hb; rw [upd_same] at q; cases q; exact .inl q1
    · rw [upd_ne hb] at q; exact S.lk b x q hk
theorem Sy.freeze1 {q : Addr × HO} (S : Sy e B H (q :: (a, o) :: L)) (h : e.H a = Option.none) : Same B (upd B a o) ∧ Sy e (upd B a o) H (q :: L) := S.swap.freeze h
theorem Sy.freeze2 {q1 q2 : Addr × HO} (S : Sy e B H (q1 :: q2 :: (a, o) :: L)) (h : e.H a = Option.none) : Same B (upd B a o) ∧ Sy e (upd B a o) H (q1 :: q2 :: L) := S.rot.freeze h

/-- what a callee is handed: the first n of the ledger -/
theorem Sy.hand (S : Sy e B H (L ++ R)) : Hand B H L :=
  ⟨S.bh, fun p hp => ⟨(S.led p (List.mem_append_left _ hp)).1, (S.led p (List.mem_append_left _ hp)).2.1⟩, by
    have h := S.nd
    rw [List.map_append] at h
    exact (List.nodup_append.mp h).1⟩
/-- behind a call -/
theorem Sy.back {L' : Led} (S : Sy e B H (L ++ R)) (T : Sy ⟨L.map (·.1), [], B, H⟩ B' H' L') (hl : L'.map (·.1) = L.map (·.1)) : Sy e B' H' (L' ++ R) := by
  have nd := S.nd
  rw [List.map_append] at nd
  have nR : ∀ p ∈ R, p.1 ∉ L.map (·.1) := fun p hp hm => (List.nodup_append.mp nd).2.2 _ hm _ (List.mem_map.mpr ⟨p, hp, rfl⟩) rfl
  refine ⟨S.b0.trans T.b0, T.bh, fun p hp => ?_, ?_, fun a x h1 h2 q => ?_, fun a r1 r2 => ?_, fun a r => T.there a (S.there a r), fun p hp => ?_, fun a x q hk => ?_⟩
  · rcases List.mem_append.mp hp with hp | hp
    · obtain ⟨r1, r2, r3, r4⟩ := T.led p hp
      have hm : p.1 ∈ L.map (·.1) := by rw [← hl]; exact List.mem_map.mpr ⟨p, hp, rfl⟩
      obtain ⟨q, hq, eq⟩ := List.mem_map.mp hm
      obtain ⟨s1, s2, s3, s4⟩ := S.led q (List.mem_append_left _ hq)
      exact ⟨r1, r2, by rw [← eq]; exact s3, by rw [← eq]; exact s4⟩
    · obtain ⟨s1, s2, s3, s4⟩ := S.led p (List.mem_append_right _ hp)
      exact ⟨T.keep p.1 p.2 (nR p hp) (by simp) s1, T.fresh p.1 (by show H p.1 ≠ _; rw [s1]; simp) s2, s3, s4⟩
  · rw [List.map_append, hl]; exact nd
  · have r := S.keep a x h1 h2 q
    refine T.keep a x (fun hm => ?_) (by simp) r
    obtain ⟨p, hp, eq⟩ := List.mem_map.mp hm
    obtain ⟨s1, s2, s3, s4⟩ := S.led p (List.mem_append_left _ hp)
    rw [show p.1 = a from eq] at s3
    rcases s3 with z | z
    · exact h1 z
    · rw [q] at z; cases z
  · exact T.fresh a (S.there a r1) (S.fresh a r1 r2)
  · refine T.keep p.1 _ (fun hm => ?_) (by simp) (S.zin p hp)
    obtain ⟨q, hq, eq⟩ := List.mem_map.mp hm
    exact (S.led q (List.mem_append_left _ hq)).2.2.2 (List.mem_map.mpr ⟨p, hp, eq.symm⟩)
  · rcases T.lk a x q hk with z | z | ⟨ob, u, z⟩
    · exact .inl z
    · exact absurd z (by simp)
    · have z : H a = some (.frz ob u) := z
      cases r : B a with
      | none =>
        have := T.fresh a (by show H a ≠ _; rw [z]; simp) r
        rw [q] at this; cases this
      | some y =>
        have e1 : B' a = some y := T.b0 a y r
        rw [q] at e1; cases e1
        rcases S.lk a x r hk with z2 | z2 | z2
        · rw [z] at z2; cases z2; exact hk.elim
        · exact .inr (.inl z2)
        · exact .inr (.inr z2)
/-- .. that laid new things that may be changed -/
theorem Sy.backN {L' N' : Led} (S : Sy e B H (L ++ R)) (T : Sy ⟨L.map (·.1), [], B, H⟩ B' H' (N' ++ L')) (hl : L'.map (·.1) = L.map (·.1)) (hn : ∀ p ∈ N', H p.1 = Option.none) : (∀ p ∈ N', e.H p.1 = Option.none) ∧ Sy e B' H' (N' ++ (L' ++ R)) := by
  have S1 := S.back (T.sub (List.sublist_append_right N' L')) hl
  have h0 : ∀ p ∈ N', e.H p.1 = Option.none := fun p hp => by
    cases q : e.H p.1 with
    | none => rfl
    | some x => exact absurd (hn p hp) (S.there p.1 (by rw [q]; simp))
  refine ⟨h0, S1.b0, S1.bh, fun p hp => ?_, ?_, S1.keep, S1.fresh, S1.there, S1.zin, S1.lk⟩
  · rcases List.mem_append.mp hp with hp | hp
    · obtain ⟨r1, r2, r3, r4⟩ := T.led p (List.mem_append_left _ hp)
      refine ⟨r1, r2, .inr (h0 p hp), fun z => ?_⟩
      obtain ⟨q, hq, e1⟩ := List.mem_map.mp z
      have := S.zin q hq
      rw [show q.1 = p.1 from e1, hn p hp] at this; cases this
    · exact S1.led p hp
  · have nd := T.nd
    rw [List.map_append] at nd ⊢
    refine List.nodup_append.mpr ⟨(List.nodup_append.mp nd).1, S1.nd, fun a ha b hb hab => ?_⟩
    subst hab
    obtain ⟨p, hp, ep⟩ := List.mem_map.mp ha
    obtain ⟨r, hr, er⟩ := List.mem_map.mp hb
    rcases List.mem_append.mp hr with hr | hr
    · exact (List.nodup_append.mp nd).2.2 _ ha _ (List.mem_map.mpr ⟨r, hr, er⟩) rfl
    · have q1 := hn p hp
      have q2 := (S.led r (List.mem_append_right _ hr)).1
      rw [show p.1 = a from ep] at q1
      rw [show r.1 = a from er, q1] at q2
      cases q2
theorem Sy.backN0 (S : Sy e B H L) (T : Sy ⟨[], [], B, H⟩ B' H' [(a, o)]) : e.H a = Option.none ∧ Sy e B' H' ((a, o) :: L) := by
  have hn : H a = Option.none := by
    obtain ⟨_, _, r3, _⟩ := T.led (a, o) List.mem_cons_self
    rcases r3 with z | z
    · cases z
    · exact z
  obtain ⟨h1, h2⟩ := Sy.backN (L := []) (L' := []) (N' := [(a, o)]) S T rfl (fun p hp => by
    rcases List.mem_cons.mp hp with rfl | hp
    · exact hn
    · cases hp)
  exact ⟨h1 _ List.mem_cons_self, h2⟩
theorem Sy.back0 (S : Sy e B H L) (T : Sy ⟨[], [], B, H⟩ B' H' []) : Sy e B' H' L := Sy.back (L := []) (L' := []) S T rfl
theorem Sy.back1 (S : Sy e B H ((a, o) :: L)) (T : Sy ⟨[a], [], B, H⟩ B' H' [(a, o')]) : Sy e B' H' ((a, o') :: L) := Sy.back (L := [(a, o)]) (L' := [(a, o')]) S T rfl
theorem Sy.hand0 (S : Sy e B H L) : Hand B H [] := Sy.hand (L := []) (R := L) S
theorem Sy.hand1 (S : Sy e B H ((a, o) :: L)) : Hand B H [(a, o)] := Sy.hand (L := [(a, o)]) (R := L) S
end

/-! ### locks -/
section
variable {e : En} {B B' H H' : Hp} {L L' : Led} {d : Addr} {u : HO} {od : Obj}
theorem dk_frz {o : Obj} {u : HO} : ¬ Dk (.frz o u) := fun h => h
/-- a dict of the base is locked -/
theorem Sy.lock (S : Sy e B H L) (hB : B d = some u) (hk : Dk u) (hH : H d = some u) : Sy { e with Z := (d, od, u) :: e.Z } B (upd H d (.frz od u)) L := by
  refine ⟨S.b0, fun a o q => ?_, fun p hp => ?_, S.nd, fun a o h1 h2 q => ?_, S.fresh, fun a q => ?_, fun p hp => ?_, fun a o q hk2 => ?_⟩
  · by_cases ha : a = d
    · subst ha
      rw [hB] at q; cases q
      exact .inr ⟨hk, od, upd_same⟩
    · rw [upd_ne ha]; exact S.bh a o q
  · obtain ⟨q1, q2, q3, q4⟩ := S.led p hp
    have ne : p.1 ≠ d := fun z => by rw [z, hB] at q2; cases q2
    refine ⟨by rw [upd_ne ne]; exact q1, q2, q3, fun z => ?_⟩
    rcases List.mem_cons.mp z with z | z
    · exact ne z
    · exact q4 z
  · have h2 : a ≠ d ∧ a ∉ e.Z.map (·.1) := ⟨fun z => h2 (by rw [z]; exact List.mem_cons_self), fun z => h2 (List.mem_cons_of_mem _ z)⟩
    rw [upd_ne h2.1]; exact S.keep a o h1 h2.2 q
  · by_cases ha : a = d
    · subst ha; rw [upd_same]; simp
    · rw [upd_ne ha]; exact S.there a q
  · rcases List.mem_cons.mp hp with rfl | hp
    · exact upd_same
    · have r := S.zin p hp
      have ne : p.1 ≠ d := fun z => by
        rw [z, hH] at r
        cases r
        exact hk
      rw [upd_ne ne]; exact r
  · by_cases ha : a = d
    · exact .inr (.inl (by rw [ha]; exact List.mem_cons_self))
    · rw [upd_ne ha]
      rcases S.lk a o q hk2 with z | z | z
      · exact .inl z
      · exact .inr (.inl (List.mem_cons_of_mem _ z))
      · exact .inr (.inr z)
/-- .. and let go of -/
theorem Sy.unlock (S : Sy e B H L) (hB : B d = some u) (hk : Dk u) (hH : H d = some u) (b : Same B B') (T : Sy { e with Z := (d, od, u) :: e.Z } B' H' L') : H' d = some (.frz od u) ∧ Sy e B' (upd H' d u) L' := by
  have hd : H' d = some (.frz od u) := T.zin (d, od, u) List.mem_cons_self
  refine ⟨hd, T.b0, fun a o q => ?_, fun p hp => ?_, T.nd, fun a o h1 h2 q => ?_, T.fresh, fun a q => ?_, fun p hp => ?_, fun a o q hk2 => ?_⟩
  · by_cases ha : a = d
    · subst ha
      rw [b a u hB] at q; cases q
      exact .inl upd_same
    · rw [upd_ne ha]; exact T.bh a o q
  · obtain ⟨q1, q2, q3, q4⟩ := T.led p hp
    have ne : p.1 ≠ d := fun z => q4 (by rw [z]; exact List.mem_cons_self)
    exact ⟨by rw [upd_ne ne]; exact q1, q2, q3, fun z => q4 (List.mem_cons_of_mem _ z)⟩
  · by_cases ha : a = d
    · subst ha
      have r := S.keep a o h1 h2 q
      rw [hH] at r; cases r
      exact upd_same
    · rw [upd_ne ha]
      refine T.keep a o h1 (fun z => ?_) q
      rcases List.mem_cons.mp z with z | z
      · exact ha z
      · exact h2 z
  · by_cases ha : a = d
    · subst ha; rw [upd_same]; simp
    · rw [upd_ne ha]; exact T.there a q
  · have r := S.zin p hp
    have ne : p.1 ≠ d := fun z => by
      rw [z, hH] at r
      cases r
      exact hk
    rw [upd_ne ne]; exact T.zin p (List.mem_cons_of_mem _ hp)
  · by_cases ha : a = d
    · subst ha
      rw [b a u hB] at q; cases q
      exact .inl upd_same
    · rw [upd_ne ha]
      rcases T.lk a o q hk2 with z | z | z
      · exact .inl z
      · rcases List.mem_cons.mp z with z | z
        · exact absurd z ha
        · exact .inr (.inl z)
      · exact .inr (.inr z)
/-- a dict that was laid since stands as it is -/
theorem Sy.dk (S : Sy e B H L) (hB : B d = some u) (hk : Dk u) (hn : e.H d = Option.none) (hz : e.Z = []) : H d = some u := by
  rcases S.lk d u hB hk with z | z | ⟨_, _, z⟩
  · exact z
  · rw [hz] at z; cases z
  · rw [hn] at z; cases z
end
section
variable {e : En} {B B' H H' : Hp} {L L' : Led} {d : Addr} {o : HO} {M : List Addr}
/-- what is laid since the entry is not in the entry's base -/
theorem Sy.bnone (S : Sy e B H L) (he : e.H = H) (hd : e.H d = Option.none) : B d = Option.none := by
  cases q : B d with
  | none => rfl
  | some x =>
    rw [he] at hd
    rcases S.bh d x q with z | ⟨_, _, z⟩ <;> (rw [hd] at z; cases z)
/-- what a callee has laid is laid since the caller's entry -/
theorem Sy.newOf (S : Sy e B H L) (T : Sy ⟨M, [], B, H⟩ B' H' L') (h0 : B d = Option.none) (h1 : B' d = some o) : e.H d = Option.none := by
  cases q : e.H d with
  | none => rfl
  | some x =>
    have h2 : H d ≠ Option.none := S.there d (by rw [q]; simp)
    have h3 := T.fresh d h2 h0
    rw [h1] at h3; cases h3
end
/-- a promise in these words: the base, the arguments, what may be changed, and what is wanted of the base, the answer and the changed behind it -/
abbrev Ph := Hp → List V → Led → (Hp → V → Led → Prop) → Prop
def spY (φ : Ph) : Sp := fun vs H Q _ => ∃ B L, Hand B H L ∧ φ B vs L fun B' v L' => ∀ H', Sy ⟨L.map (·.1), [], B, H⟩ B' H' L' → Q v H'
end Y
/-! == and != of things that are alike and hold dicts: lists, tuples, dicts in one another. -/
namespace Y
open PySem PySem.Spec PyProof.Rows L2
/-- alike: lists or dicts or tuples of things that are alike by E -/
def AlR (K : PySem.W.Frag) (H : Hp) (E : V → V → Prop) (x y : V) : Prop :=
  EqR K H E x y ∨ ∃ a b xs ys, x = .ref a ∧ y = .ref b ∧ SqT K H a xs ∧ SqT K H b ys ∧ Paired E xs ys
/-- alike, of a nesting below n -/
def Al (K : PySem.W.Frag) (H : Hp) : Nat → V → V → Prop
  | 0 => fun _ _ => False
  | n + 1 => fun x y => (x = y ∧ flatB x = true) ∨ (∃ a, x = .ref a ∧ y = .ref a) ∨ AlR K H (Al K H n) x y
section
open PySem.SeqAt
open AutoSeq1 (wpAny_loadPart')
variable {prog : Program} {w : World}
/-- two tuples of as many things, alike one by one, are not unlike -/
theorem tup_not_ne {l b : Addr} {us ws : Array Value} {n1 n2 : Nat} {d1 d2 : Option Addr} {s1 s2 : Array (Option Value)} (hz : us.size = ws.size) :
    MeetsIn prog w (Builtin.«tuple.__ne__» ⟨[.ref l, .ref b], []⟩) fun A R s =>
      s.heap.get? l = some ⟨.type "tuple", d1, .seq us n1, s1⟩ ∧ s.heap.get? b = some ⟨.type "tuple", d2, .seq ws n2, s2⟩ ∧
        (∀ j (p : j < us.size) (q : j < ws.size), EqP prog w A.in1 s us[j] ws[j] true) ∧ R (.ok (.ret (.bool false))) s := by
  refine .of_wp fun A R s hyp => ?_
  obtain ⟨hp, g, d, tk, os⟩ := s
  obtain ⟨h1, h2, h3, h4⟩ := hyp
  have sub := AutoSeq1.sub_tuple_tuple
  wp_walk using wpAny_loadPart' h1, wpAny_loadPart' h2, wpAny_forIn_list _ (fun todo acc now => acc.1 = none ∧ now = ⟨hp, g, d, tk, os⟩ ∧ ∃ k, todo = (us.toList.zip ws.toList).drop k) _
  case turn =>
    rintro ⟨p, q⟩ todo acc now ⟨e1, e2, k, e3⟩
    subst e2
    have hk : k < (us.toList.zip ws.toList).length := Nat.lt_of_not_le fun z => by
      rw [List.drop_of_length_le z] at e3
      cases e3
    have hk1 : k < us.size := by simp at hk; omega
    have hk2 : k < ws.size := by omega
    rw [List.drop_eq_getElem_cons hk] at e3
    injection e3 with e4 e5
    have e6 : p = us[k] := by simpa using congrArg Prod.fst e4
    have e7 : q = ws[k] := by simpa using congrArg Prod.snd e4
    rw [e6, e7]
    refine wpAny_bind (h3 k hk1 hk2 _ _ ?_)
    wp_walk
    exact ⟨rfl, rfl, k + 1, e5⟩
  case fin =>
    rintro ⟨c1, c2⟩ now ⟨e1, e2, k, e3⟩
    have e1 : c1 = none := e1
    subst e1 e2
    wp_walk
    refine ⟨_, rfl, ?_⟩
    simpa [Builtin.Tuple.tupleCompareSizes, bne, hz] using h4
  case h => exact ⟨rfl, rfl, 0, rfl⟩
end
section
variable {X : Cx} {pins : List (Addr × Obj)} {σ : L2.St} {H : Hp} {s : Shared}
theorem alR_run (I : Inv X pins σ H s) {A : Around} {F : V → V → Prop} (hu : A.units < cLine) (ih : ∀ x y v u, F x y → RelV x v → RelV y u → SeqAt.EqP X.prog X.w A.in1 s v u true) {x y : V} {v u : Value} (h : AlR X.K H F x y) (rx : RelV x v) (ry : RelV y u)
    (E Q : Value → Shared → Prop) (q : Q (.bool true) s) : wpAny (model X.prog X.w) A (richCompare .Eq v u) Q E s := by
  rcases h with h | ⟨a, b, xs, ys, rfl, rfl, ha, hb, hp⟩
  · exact eqR_run I hu ih h rx ry E Q q
  · cases (show v = Value.ref a from rx)
    cases (show u = Value.ref b from ry)
    obtain ⟨us, r1, p1, _⟩ := I.tuple ha
    obtain ⟨ws, r2, p2, _⟩ := I.tuple hb
    have hl : us.length = ws.length := by rw [← r1.length, ← r2.length]; exact Paired.length hp
    refine SeqAt.rcIn_tuples (e := fun _ => true) p1 p2 hu (fun j h1 h2 => ?_) ?_
    · have k := items_run ih hp r1 r2 j (by simpa using h1) (by simpa using h2)
      have k' : SeqAt.EqP X.prog X.w A.in1 s us.toArray[j] ws.toArray[j] true := by simpa using k
      exact k'
    · have e : ((List.range (min us.toArray.size ws.toArray.size)).all (fun _ => true) && us.toArray.size == ws.toArray.size) = true := by simp [hl]
      rw [e]
      exact q
theorem al_run (I : Inv X pins σ H s) : ∀ (n : Nat) (A : Around), A.units + n < cLine → ∀ (x y : V) (v u : Value), Al X.K H n x y → RelV x v → RelV y u → SeqAt.EqP X.prog X.w A s v u true
  | 0, _, _, _, _, _, _, h, _, _ => (show False from h).elim
  | n + 1, A, hu, x, y, v, u, h, rx, ry => by
    rcases h with ⟨rfl, f⟩ | ⟨a, rfl, rfl⟩ | h
    · exact (eqAt_same rx ry f).eqP
    · cases (show v = Value.ref a from rx)
      cases (show u = Value.ref a from ry)
      exact (SeqAt.EqAt.same _).eqP
    · have go := alR_run I (A := A) (by omega) (al_run I n A.in1 (by show A.units + 1 + n < cLine; omega)) h rx ry
      have two : ∃ a b, x = .ref a ∧ y = .ref b := by
        rcases h with (⟨a, b, _, _, e1, e2, _⟩ | ⟨a, b, _, _, e1, e2, _⟩) | ⟨a, b, _, _, e1, e2, _⟩ <;> exact ⟨a, b, e1, e2⟩
      obtain ⟨a, b, rfl, rfl⟩ := two
      cases (show v = Value.ref a from rx)
      cases (show u = Value.ref b from ry)
      by_cases e : a = b
      · subst e
        exact (SeqAt.EqAt.same _).eqP
      · exact SeqAt.eqP_refs e go
end
section
variable {X : Cx}
def rEqA (K : PySem.W.Frag) : R2 := fun x y H Q => ∃ n, n ≤ 60 ∧ AlR K H (Al K H n) x y ∧ Q (.bl true) H
theorem op_eqA (hu : X.A.units + 64 < cLine) : OpR X (compareOp .Eq) (rEqA X.K) := by
  intro pins s σ H x y v u Q I rx ry h
  obtain ⟨n, hn, h, q⟩ := h
  exact alR_run I (A := X.A) (by omega) (al_run I n X.A.in1 (by show X.A.units + 1 + n < cLine; omega)) h rx ry _ _ ⟨.bl true, H, I, rfl, q⟩
/-- != of two tuples that are alike; of two dicts -/
def rNeA (K : PySem.W.Frag) : R2 := fun x y H Q => ∃ n a b xs ys, n ≤ 60 ∧ x = .ref a ∧ y = .ref b ∧ SqT K H a xs ∧ SqT K H b ys ∧ Paired (Al K H n) xs ys ∧ Q (.bl false) H
theorem op_neA (hu : X.A.units + 64 < cLine) : OpR X (compareOp .NotEq) (rNeA X.K) := by
  intro pins s σ H x y v u Q I rx ry h
  obtain ⟨n, a, b, xs, ys, hn, rfl, rfl, ha, hb, hp, q⟩ := h
  cases (show v = Value.ref a from rx)
  cases (show u = Value.ref b from ry)
  obtain ⟨us, r1, p1, _⟩ := I.tuple ha
  obtain ⟨ws, r2, p2, _⟩ := I.tuple hb
  have hl : us.length = ws.length := by rw [← r1.length, ← r2.length]; exact Paired.length hp
  have hit : ∀ j (p : j < us.toArray.size) (q : j < ws.toArray.size), SeqAt.EqP X.prog X.w X.A.in1 s us.toArray[j] ws.toArray[j] true := fun j p q => by
    have k := items_run (al_run I n X.A.in1 (by show X.A.units + 1 + n < cLine; omega)) hp r1 r2 j (by simpa using p) (by simpa using q)
    simpa using k
  obtain ⟨⟨c1, d1, dt1, s1⟩, g1, k1, m1, t1⟩ := p1
  obtain ⟨⟨c2, d2, dt2, s2⟩, g2, k2, m2, t2⟩ := p2
  have k1 : c1 = .type "tuple" := k1
  have k2 : c2 = .type "tuple" := k2
  have t1 : dt1 = .seq us.toArray m1 := t1
  have t2 : dt2 = .seq ws.toArray m2 := t2
  subst k1 k2 t1 t2
  refine wpAny_richCompare_same_room (T := "tuple") (op := .NotEq) ⟨_, g1, rfl⟩ ⟨_, g2, rfl⟩ F.slot_tuple_ne (call_meetsIn F.slot_tuple_ne ⟨_, g1, rfl⟩ F.entry_tuple_ne (F.args_tuple_ne_2 _ _) (tup_not_ne (by simp [hl])) ⟨g1, g2, hit, ?_⟩) (by omega)
  exact (show Value.bool false ≠ Value.notImplemented ∧ EP X pins σ Q (.bool false) s from ⟨fun z => (nomatch z), V.bl false, H, I, rfl, q⟩)
/-! ### a list against the empty list -/
def rEqE (K : PySem.W.Frag) : R2 := fun x y H Q => ∃ a b xs, x = .ref a ∧ y = .ref b ∧ SqL K H a xs ∧ SqL K H b [] ∧ Q (.bl xs.isEmpty) H
def rNeE (K : PySem.W.Frag) : R2 := fun x y H Q => ∃ a b xs, x = .ref a ∧ y = .ref b ∧ SqL K H a xs ∧ SqL K H b [] ∧ Q (.bl (!xs.isEmpty)) H
theorem op_eqE (hu : X.A.units + 64 < cLine) : OpR X (compareOp .Eq) (rEqE X.K) := by
  intro pins s σ H x y v u Q I rx ry h
  obtain ⟨a, b, xs, rfl, rfl, ha, hb, q⟩ := h
  cases (show v = Value.ref a from rx)
  cases (show u = Value.ref b from ry)
  obtain ⟨us, r1, p1, _⟩ := I.list ha
  obtain ⟨ws, r2, p2, _⟩ := I.list hb
  cases r2
  cases r1 with
  | nil => exact SeqAt.RcAt.lists (e := fun _ => true) p1.isList p2.isList rfl (by omega) (fun j h1 _ => absurd h1 (by simp)) X.prog X.w _ _ ⟨V.bl true, H, I, rfl, q⟩
  | cons _ _ => exact SeqAt.RcAt.lists_lengths p1.isList p2.isList (by simp) (by omega) X.prog X.w _ _ ⟨V.bl false, H, I, rfl, q⟩
theorem op_neE (hu : X.A.units + 64 < cLine) : OpR X (compareOp .NotEq) (rNeE X.K) := by
  intro pins s σ H x y v u Q I rx ry h
  obtain ⟨a, b, xs, rfl, rfl, ha, hb, q⟩ := h
  cases (show v = Value.ref a from rx)
  cases (show u = Value.ref b from ry)
  obtain ⟨us, r1, p1, _⟩ := I.list ha
  obtain ⟨ws, r2, p2, _⟩ := I.list hb
  cases r2
  cases r1 with
  | nil => exact SeqAt.RcNeAt.lists (e := fun _ => true) p1.isList p2.isList rfl (by omega) (fun j h1 _ => absurd h1 (by simp)) X.prog X.w _ _ ⟨V.bl false, H, I, rfl, q⟩
  | cons _ _ => exact SeqAt.RcNeAt.lists_lengths p1.isList p2.isList (by simp) (by omega) X.prog X.w _ _ ⟨V.bl true, H, I, rfl, q⟩
end
end Y
/-! One rule for each operator, whatever the kinds; the walk picks by the values. -/
namespace Y
open PySem PySem.Spec PyProof.Rows L2
section
variable {X : Cx}

/-! ### great powers -/
def CPowW (i j : Int) : Prop := 0 ≤ j ∧ j ≤ 100 ∧ i.natAbs.log2 < 100000
theorem pow_ok {i j : Int} {b : Nat} (ha : i.natAbs < 2 ^ b) (h0 : 0 < b) (hb : b ≤ 100000) (h1 : 0 ≤ j) (h2 : j ≤ 100) : CPowW i j := ⟨h1, h2, Nat.lt_of_lt_of_le (PySem.Flt.log2_lt_of h0 ha) hb⟩
theorem op_powW : OpR X (binaryOp .Pow) (rI CPowW fun i j => .int (i ^ j.toNat)) := opI fun i j _ _ _ _ _ hc q => by
  refine pow_int hc.1 ?_ q
  have hb : Builtin.Int.intBits i ≤ i.natAbs.log2 + 1 := by unfold Builtin.Int.intBits; split <;> omega
  have hl : i.natAbs.log2 < 100000 := hc.2.2
  have h2 : (Builtin.Int.intBits i : Int) ≤ 100000 := by omega
  have h3 : (Builtin.Int.intBits i : Int) * j ≤ 100000 * 100 := Int.mul_le_mul h2 hc.2.1 hc.1 (by decide)
  omega

/-! ### + -/
def rAddI : R2 := fun x y H Q => ∃ i j, x = .int i ∧ y = .int j ∧ Q (.int (i + j)) H
def rAddS : R2 := fun x y H Q => ∃ i j, x = .str i ∧ y = .str j ∧ i.length + j.length ≤ sizeLine ∧ Q (.str (i ++ j)) H
def rAddU (K : PySem.W.Frag) : R2 := fun x y H Q => rAddI x y H Q ∨ (rAddS x y H Q ∨ (rCat x y H Q ∨ rCatT K x y H Q))
theorem op_addU {K : PySem.W.Frag} (hK : X.K = K) : OpR X (binaryOp .Add) (rAddU K) := hK ▸ OpR.or (r := rAddI) op_add (OpR.or (r := rAddS) op_add_str (OpR.or op_cat op_catT))
def rSubI : R2 := fun x y H Q => ∃ i j, x = .int i ∧ y = .int j ∧ Q (.int (i - j)) H
theorem op_subU : OpR X (binaryOp .Sub) rSubI := op_sub
def rMulI : R2 := fun x y H Q => ∃ i j, x = .int i ∧ y = .int j ∧ CMul i j ∧ Q (.int (i * j)) H
theorem op_mulU : OpR X (binaryOp .Mult) rMulI := op_mul
def rDivI : R2 := fun x y H Q => ∃ i j, x = .int i ∧ y = .int j ∧ CDivW i j ∧ Q (.int (i / j)) H
theorem op_divU : OpR X (binaryOp .FloorDiv) rDivI := op_fdivW
def rModI : R2 := fun x y H Q => ∃ i j, x = .int i ∧ y = .int j ∧ 0 < j ∧ Q (.int (i % j)) H
theorem op_modU : OpR X (binaryOp .Mod) rModI := op_mod
def rPowI : R2 := fun x y H Q => ∃ i j, x = .int i ∧ y = .int j ∧ CPowW i j ∧ Q (.int (i ^ j.toNat)) H
theorem op_powU : OpR X (binaryOp .Pow) rPowI := op_powW
def rNegI : V → Hp → VK → Prop := fun x H Q => ∃ i, x = .int i ∧ Q (.int (-i)) H
theorem un_negU : UnR X (unaryOp .USub) rNegI := un_neg

/-! ### comparisons -/
def rLtI : R2 := fun x y H Q => ∃ i j, x = .int i ∧ y = .int j ∧ Q (.bl (decide (i < j))) H
def rLtS : R2 := fun x y H Q => ∃ i j, x = .str i ∧ y = .str j ∧ Q (.bl (decide (i.cps.toList < j.cps.toList))) H
def rLtU : R2 := fun x y H Q => rLtI x y H Q ∨ rLtS x y H Q
theorem op_ltU : OpR X (compareOp .Lt) rLtU := OpR.or (r := rLtI) op_lt op_lt_str
def rLeI : R2 := fun x y H Q => ∃ i j, x = .int i ∧ y = .int j ∧ Q (.bl (decide (i ≤ j))) H
def rLeS : R2 := fun x y H Q => ∃ i j, x = .str i ∧ y = .str j ∧ Q (.bl (!decide (j.cps.toList < i.cps.toList))) H
def rLeU : R2 := fun x y H Q => rLeI x y H Q ∨ rLeS x y H Q
theorem op_leU : OpR X (compareOp .LtE) rLeU := OpR.or (r := rLeI) op_le op_le_str
def rGtI : R2 := fun x y H Q => ∃ i j, x = .int i ∧ y = .int j ∧ Q (.bl (decide (j < i))) H
theorem op_gtU : OpR X (compareOp .Gt) rGtI := op_gt
def rGeI : R2 := fun x y H Q => ∃ i j, x = .int i ∧ y = .int j ∧ Q (.bl (decide (j ≤ i))) H
theorem op_geU : OpR X (compareOp .GtE) rGeI := op_ge
def rEqU (K : PySem.W.Frag) : R2 := fun x y H Q => rEq x y H Q ∨ (rEqD K x y H Q ∨ (rEqA K x y H Q ∨ rEqE K x y H Q))
theorem op_eqU {K : PySem.W.Frag} (hK : X.K = K) (hu : X.A.units + 64 < cLine) : OpR X (compareOp .Eq) (rEqU K) := hK ▸ OpR.or op_eq (OpR.or (op_eqD hu) (OpR.or (op_eqA hu) (op_eqE hu)))
def rNeU (K : PySem.W.Frag) : R2 := fun x y H Q => rNe x y H Q ∨ (rNeD K x y H Q ∨ (rNeA K x y H Q ∨ rNeE K x y H Q))
theorem op_neU {K : PySem.W.Frag} (hK : X.K = K) (hu : X.A.units + 64 < cLine) : OpR X (compareOp .NotEq) (rNeU K) := hK ▸ OpR.or op_ne (OpR.or (op_neD hu) (OpR.or (op_neA hu) (op_neE hu)))
def rIsNU : R2 := fun x y H Q => y = .non ∧ Q (.bl (decide (x = .non))) H
theorem op_isU : OpR X (compareOp .Is) rIsNU := op_isN
def rNotNU : R2 := fun x y H Q => y = .non ∧ Q (.bl (!decide (x = .non))) H
theorem op_isnotU : OpR X (compareOp .IsNot) rNotNU := op_notN

/-! ### in -/
def rInDk : R2 := fun x y H Q => ∃ a o, y = .ref a ∧ DGet H a x o ∧ Q (.bl o.isSome) H
theorem op_inD (hu : X.A.units + 1 < cLine) : OpR X (compareOp .In) rInDk := by
  intro pins s σ H x y v u Q I rx ry h
  obtain ⟨a, o, rfl, g, q⟩ := h
  obtain rfl : u = Value.ref a := ry
  exact d_in hu I g rx fun s3 I3 => ⟨.bl o.isSome, H, I3, rfl, q⟩
def rNotInDk : R2 := fun x y H Q => ∃ a o, y = .ref a ∧ DGet H a x o ∧ Q (.bl (!o.isSome)) H
theorem op_notInD (hu : X.A.units + 1 < cLine) : OpR X (compareOp .NotIn) rNotInDk := by
  intro pins s σ H x y v u Q I rx ry h
  obtain ⟨a, o, rfl, g, q⟩ := h
  obtain rfl : u = Value.ref a := ry
  exact d_notIn hu I g rx fun s3 I3 => ⟨.bl (!o.isSome), H, I3, rfl, q⟩
def rInSg : R2 := fun x y H Q => ∃ (c : Nat) (z : Str), x = .str ⟨#[c]⟩ ∧ y = .str z ∧ Q (.bl (decide (c ∈ z.cps.toList))) H
def rNotInSg : R2 := fun x y H Q => ∃ (c : Nat) (z : Str), x = .str ⟨#[c]⟩ ∧ y = .str z ∧ Q (.bl (!decide (c ∈ z.cps.toList))) H
def rInU (K : PySem.W.Frag) : R2 := fun x y H Q => rIn K false x y H Q ∨ (rInSg x y H Q ∨ rInDk x y H Q)
theorem op_inU {K : PySem.W.Frag} (hK : X.K = K) (hu : X.A.units + 1 < cLine) : OpR X (compareOp .In) (rInU K) := hK ▸ OpR.or op_in_seq (OpR.or (r := rInSg) op_in_sign (op_inD hu))
def rNotInU (K : PySem.W.Frag) : R2 := fun x y H Q => rIn K true x y H Q ∨ (rNotInSg x y H Q ∨ rNotInDk x y H Q)
theorem op_notInU {K : PySem.W.Frag} (hK : X.K = K) (hu : X.A.units + 1 < cLine) : OpR X (compareOp .NotIn) (rNotInU K) := hK ▸ OpR.or op_notIn_seq (OpR.or (r := rNotInSg) op_notIn_sign (op_notInD hu))

/-! ### subscripts -/
def rIxD : R2 := fun x y H Q => ∃ a v, x = .ref a ∧ DGet H a y (some v) ∧ Q v H
theorem ix_dict (hu : X.A.units + 1 < cLine) : IxR X rIxD := by
  intro value slice pins s σ H x y v u Q I rx ry h hs
  obtain ⟨a, w, rfl, g, q⟩ := h
  obtain rfl : v = Value.ref a := rx
  exact tail_any (dict_typeIs I g) PySem.F.slot_dict_getitem.lookup (d_getItem hu I g ry fun w' s3 I3 rw' => ⟨w, H, I3, rw', q⟩) hs
def rIxU (K : PySem.W.Frag) : R2 := fun x y H Q => rIx K x y H Q ∨ rIxD x y H Q
theorem ix_U {K : PySem.W.Frag} (hK : X.K = K) (hu : X.A.units + 1 < cLine) : IxR X (rIxU K) := hK ▸ IxR.or ix_seq (ix_dict hu)
def rSetD : V → V → V → Hp → (Hp → Prop) → Prop := fun o i v H Q => ∃ a H', o = .ref a ∧ DPut H a i v H' ∧ Q H'
theorem set_dict (hu : X.A.units + 1 < cLine) : PSet X rSetD := by
  intro pins s σ H o i v ov iv u Q I ro ri rv h
  obtain ⟨a, H', rfl, g, q⟩ := h
  obtain rfl : ov = Value.ref a := ro
  exact d_setItem hu I g ri rv fun s4 I4 => ⟨H', I4, q⟩
def rSetU : V → V → V → Hp → (Hp → Prop) → Prop := fun o i v H Q => rSetL o i v H Q ∨ rSetD o i v H Q
theorem set_U (hu : X.A.units + 1 < cLine) : PSet X rSetU := by
  intro pins s σ H o i v ov iv u Q I ro ri rv h
  rcases h with h | h
  · exact set_list pins s σ H o i v ov iv u Q I ro ri rv h
  · exact set_dict hu pins s σ H o i v ov iv u Q I ro ri rv h
def rSlU (K : PySem.W.Frag) : V → Option Int → Option Int → Hp → VK → Prop := fun x lo hi H Q => rSlL K x lo hi H Q ∨ (∃ z, x = .str z ∧ z.length ≤ sizeLine ∧ Q (.str (cutS z lo hi)) H)
theorem sl_U {K : PySem.W.Frag} (hK : X.K = K) : SlR X (rSlU K) := hK ▸ SlR.or sl_list sl_str
/-! ### the layer's rules with K told -/
theorem pi_listK {K : PySem.W.Frag} {tg l : Expr} {tl : TE} (hK : X.K = K) (hl : PE X l tl) : PI X tg l (iList K tl) := hK ▸ pi_list hl
theorem pi_tupK {K : PySem.W.Frag} {tg l : Expr} {tl : TE} (hK : X.K = K) (hl : PE X l tl) : PI X tg l (iTup K tl) := hK ▸ pi_tup hl
theorem pi_zipK {K : PySem.W.Frag} {e e2 : Expr} {ta : TA} {p pos tpos : Pos} {elts : List Expr} {kk : Nat} (hK : X.K = K) (hg : Gl X "zip") (hm : X.mg "zip" = none) (ha : PA X [e, e2] ta)
    (hs : starEach [e, e2] X.env = (false, eval e X.env) :: starEach [e2] X.env := by rfl) (hpl : (backTo pos (starEach [e2] X.env)).any (·.1) = false := by rfl) :
    PI X (.Tuple elts kk tpos) (.Call (.Name "zip" p) [e, e2] [] pos) (iZip K ta) := hK ▸ pi_zip hg hm ha hs hpl
theorem pi_enumK {K : PySem.W.Frag} {e : Expr} {ta : TA} {p pos tpos : Pos} {elts : List Expr} {kk : Nat} (hK : X.K = K) (hg : Gl X "enumerate") (hm : X.mg "enumerate" = none) (ha : PA X [e] ta) (hs : starEach [e] X.env = [(false, eval e X.env)] := by rfl) :
    PI X (.Tuple elts kk tpos) (.Call (.Name "enumerate" p) [e] [] pos) (iEnum K ta) := hK ▸ pi_enum hg hm ha hs
theorem pg_tupK {K : PySem.W.Frag} {es : List Expr} {k : Nat} {t : TGs} {n : Nat} {pos : Pos} (hK : X.K = K) (hc : X.calm = true) (h : PGs X es t)
    (hn : (assignEach es X.env).length = n := by rfl) (hst : (assignEach es X.env).findIdx? (·.1) = none := by rfl) : PG X (.Tuple es k pos) (gTup K n t) := hK ▸ pg_tup hc h hn hst
theorem pe_bmK {K : PySem.W.Frag} {T id : String} {name : Str} {r : V → List V → Hp → VK → Prop} {o e : Expr} {es : List Expr} {to : TE} {t : TA} {apos cpos : Pos} (hK : X.K = K) (h : PE X (.Call (.Attribute o name apos) (e :: es) [] cpos) (tBM X.K T r to t)) : PE X (.Call (.Attribute o name apos) (e :: es) [] cpos) (tBM K T r to t) := hK ▸ h
theorem pe_bm0K {K : PySem.W.Frag} {T id : String} {name : Str} {r : V → List V → Hp → VK → Prop} {o : Expr} {to : TE} {apos cpos : Pos} (hK : X.K = K) (h : PE X (.Call (.Attribute o name apos) [] [] cpos) (tBM0 X.K T r to)) : PE X (.Call (.Attribute o name apos) [] [] cpos) (tBM0 K T r to) := hK ▸ h
end
end Y
/-! The walk through a reading, step by step. -/
namespace Y
open PySem PySem.Spec PyProof.Rows L2
section
variable {K : PySem.W.Frag} {σ : L2.St} {H : Hp} {Q : VK} {D : Ends} {ta tb te tc : TE} {t u : TS} {tt tu : TT} {i : Nat} {v x y : V} {r r' : R2} {g : TG} {nx bk ct : L2.St → Hp → Prop} {rt : VK} {QT : Bool → Hp → Prop} {QA : List V → Hp → Prop}

/-! ### statements -/
theorem y_seq (h : t ⟨u ⟨nx, rt, bk, ct⟩, rt, bk, ct⟩ σ H) : tSeq t u ⟨nx, rt, bk, ct⟩ σ H := h
theorem y_next (h : nx σ H) : tNext ⟨nx, rt, bk, ct⟩ σ H := h
theorem y_break (h : bk σ H) : tBreak ⟨nx, rt, bk, ct⟩ σ H := h
theorem y_cont (h : ct σ H) : tCont ⟨nx, rt, bk, ct⟩ σ H := h
theorem y_asg (h : te σ H fun x H1 => g x σ H1 nx) : tAsg te g ⟨nx, rt, bk, ct⟩ σ H := h
theorem y_gname {N : L2.St → Hp → Prop} (h : N (σ.set i (some v)) H) : gName i v σ H N := h
theorem y_drop (h : te σ H fun _ H1 => nx σ H1) : tDrop te ⟨nx, rt, bk, ct⟩ σ H := h
theorem y_ret (h : te σ H rt) : tRet te ⟨nx, rt, bk, ct⟩ σ H := h
theorem y_retN (h : rt .non H) : tRetN ⟨nx, rt, bk, ct⟩ σ H := h
theorem y_ifS (h : tt σ H fun b H1 => if b = true then t ⟨nx, rt, bk, ct⟩ σ H1 else u ⟨nx, rt, bk, ct⟩ σ H1) : tIfS tt t u ⟨nx, rt, bk, ct⟩ σ H := h
theorem y_aug {ti : TIp} (h : σ[i]? = some (some x)) (q : te σ H fun y H1 => ti x y H1 fun z H2 => nx (σ.set i (some z)) H2) : tAug i te ti ⟨nx, rt, bk, ct⟩ σ H := ⟨x, h, q⟩
theorem y_ipI {f : Int → Int → Int} {a b : Int} (q : Q (.int (f a b)) H) : ipI f (.int a) (.int b) H Q := ⟨a, b, rfl, rfl, q⟩

/-- behind a statement R holds, whatever comes then -/
theorem y_cutS {ts : TS} {R : L2.St → Hp → Prop} (h1 : ∀ nx' : L2.St → Hp → Prop, (∀ σ H, R σ H → nx' σ H) → ts ⟨nx', rt, bk, ct⟩ σ H) (h2 : ∀ σ H, R σ H → nx σ H) : ts ⟨nx, rt, bk, ct⟩ σ H := h1 nx h2
/-- behind an expression, a test -/
theorem y_cutE {R : V → Hp → Prop} (h1 : ∀ Q' : VK, (∀ v H, R v H → Q' v H) → te σ H Q') (h2 : ∀ v H, R v H → Q v H) : te σ H Q := h1 Q h2
theorem y_cutT {R : Bool → Hp → Prop} (h1 : ∀ Q' : Bool → Hp → Prop, (∀ v H, R v H → Q' v H) → tt σ H Q') (h2 : ∀ v H, R v H → QT v H) : tt σ H QT := h1 QT h2

/-! ### expressions -/
theorem y_var (h : σ[i]? = some (some v)) (q : Q v H) : tVar i σ H Q := ⟨v, h, q⟩
theorem y_c (q : Q v H) : tC v σ H Q := q
theorem y_op (h : ta σ H fun x H1 => tb σ H1 fun y H2 => r x y H2 Q) : tOp r ta tb σ H Q := h
theorem y_un {r : V → Hp → VK → Prop} (h : ta σ H fun x H1 => r x H1 Q) : tUn r ta σ H Q := h
theorem y_ifE (h : tt σ H fun c H1 => if c = true then ta σ H1 Q else tb σ H1 Q) : tIf tt ta tb σ H Q := h
theorem y_nil (h : QA [] H) : tNil σ H QA := h
theorem y_cons {tr : TA} (h : ta σ H fun x H1 => tr σ H1 fun xs H2 => QA (x :: xs) H2) : tCons ta tr σ H QA := h
theorem y_call {sp : Sp} {dvs : List V} {E : XK} {t : TA} (h : t σ H fun vs H1 => sp (vs ++ dvs) H1 Q E) : tCall sp dvs E t σ H Q := h
theorem y_callK {sp : Sp} {gV : List V → List V → List V} {E : XK} {t tk : TA} (h : t σ H fun vs H1 => tk σ H1 fun zs H2 => sp (gV vs zs) H2 Q E) : tCallK sp gV E t tk σ H Q := h
theorem y_cb {r : List V → Hp → VK → Prop} {t : TA} (h : t σ H fun vs H1 => r vs H1 Q) : tCB r t σ H Q := h
theorem y_bm {T : String} {r : V → List V → Hp → VK → Prop} {t : TA} (h : ta σ H fun x H1 => tyV K T x H1 ∧ t σ H1 fun xs H2 => r x xs H2 Q) : tBM K T r ta t σ H Q := h
theorem y_bm0 {T : String} {r : V → List V → Hp → VK → Prop} (h : ta σ H fun x H1 => tyV K T x H1 ∧ r x [] H1 Q) : tBM0 K T r ta σ H Q := h
theorem y_sl {r : V → Option Int → Option Int → Hp → VK → Prop} {tl th : TO} (h : te σ H fun x H1 => tl σ H1 fun l H2 => th σ H2 fun u H3 => r x l u H3 Q) : tSl r te tl th σ H Q := h
theorem y_nopart {QO : Option Int → Hp → Prop} (h : QO none H) : tNoPart σ H QO := h
/-- a part of a slice, an int -/
def PtK (QO : Option Int → Hp → Prop) : VK := fun x H1 => ∃ i, x = .int i ∧ QO (some i) H1
theorem y_part {QO : Option Int → Hp → Prop} (h : te σ H (PtK QO)) : tPart te σ H QO := h
theorem y_ptK {QO : Option Int → Hp → Prop} {j : Int} (h : QO (some j) H) : PtK QO (.int j) H := ⟨j, rfl, h⟩

/-! ### tests -/
/-- a bool is wanted -/
def BlK (QT : Bool → Hp → Prop) : VK := fun x H' => ∃ k, x = .bl k ∧ QT k H'
theorem y_blK {b : Bool} (h : QT b H) : BlK QT (.bl b) H := ⟨b, rfl, h⟩
theorem y_test (h : te σ H (BlK QT)) : tTest te σ H QT := h
theorem y_tB (h : te σ H (BlK QT)) : tB te σ H QT := h
theorem y_and (h : tt σ H fun c H1 => if c = true then tu σ H1 QT else QT false H1) : tAnd tt tu σ H QT := h
theorem y_or (h : tt σ H fun c H1 => if c = true then QT true H1 else tu σ H1 QT) : tOr tt tu σ H QT := h
theorem y_not (h : tt σ H fun c H1 => QT (!c) H1) : tNot tt σ H QT := h
/-- a bool among values: and, or, not -/
def AndK (tb : TE) (σ : L2.St) (Q : VK) : VK := fun x H1 => ∃ c, x = .bl c ∧ if c = true then tb σ H1 Q else Q (.bl false) H1
theorem y_andV (h : ta σ H (AndK tb σ Q)) : tAndV ta tb σ H Q := h
theorem y_andK {b : Bool} (h : if b = true then tb σ H Q else Q (.bl false) H) : AndK tb σ Q (.bl b) H := ⟨b, rfl, h⟩
def OrK (tb : TE) (σ : L2.St) (Q : VK) : VK := fun x H1 => ∃ c, x = .bl c ∧ if c = true then Q (.bl true) H1 else tb σ H1 Q
theorem y_orV (h : ta σ H (OrK tb σ Q)) : tOrV ta tb σ H Q := h
theorem y_orK {b : Bool} (h : if b = true then Q (.bl true) H else tb σ H Q) : OrK tb σ Q (.bl b) H := ⟨b, rfl, h⟩
def NotK (Q : VK) : VK := fun x H1 => ∃ c, x = .bl c ∧ Q (.bl (!c)) H1
theorem y_notV (h : ta σ H (NotK Q)) : tNotV ta σ H Q := h
theorem y_notK {b : Bool} (h : Q (.bl (!b)) H) : NotK Q (.bl b) H := ⟨b, rfl, h⟩
def ChK (r' : R2) (tc : TE) (σ : L2.St) (y : V) (Q : VK) : VK := fun z H3 => ∃ k, z = .bl k ∧ (if k = true then tc σ H3 fun w' H4 => r' y w' H4 Q else Q (.bl false) H3)
theorem y_chain (h : ta σ H fun x H1 => tb σ H1 fun y H2 => r x y H2 (ChK r' tc σ y Q)) : tChain r r' ta tb tc σ H Q := h
theorem y_chK {b : Bool} (h : if b = true then tc σ H fun w' H4 => r' y w' H4 Q else Q (.bl false) H) : ChK r' tc σ y Q (.bl b) H := ⟨b, rfl, h⟩

theorem y_ite {p : Prop} [Decidable p] {A B : Prop} (h1 : p → A) (h2 : ¬ p → B) : if decide p = true then A else B := by
  by_cases h : p
  · rw [if_pos (decide_eq_true h)]; exact h1 h
  · rw [if_neg (by simp [h])]; exact h2 h
theorem y_iteN {p : Prop} [Decidable p] {A B : Prop} (h1 : ¬ p → A) (h2 : p → B) : if (!decide p) = true then A else B := by
  by_cases h : p
  · rw [if_neg (by simp [h])]; exact h2 h
  · rw [if_pos (by simp [h])]; exact h1 h
theorem y_iteB {b : Bool} {A B : Prop} (h1 : b = true → A) (h2 : b = false → B) : if b = true then A else B := by
  cases b
  · rw [if_neg (by decide)]; exact h2 rfl
  · rw [if_pos rfl]; exact h1 rfl
theorem y_iteI {a b : Int} {A B : Prop} (h1 : a = b → A) (h2 : a ≠ b → B) : if decide (V.int a = V.int b) = true then A else B := y_ite (fun h => h1 (V.int.inj h)) fun h => h2 fun z => h (by rw [z])
theorem y_iteIN {a b : Int} {A B : Prop} (h1 : a ≠ b → A) (h2 : a = b → B) : if (!decide (V.int a = V.int b)) = true then A else B := y_iteN (fun h => h1 fun z => h (by rw [z])) fun h => h2 (V.int.inj h)
theorem y_iteS {a b : Str} {A B : Prop} (h1 : a = b → A) (h2 : a ≠ b → B) : if decide (V.str a = V.str b) = true then A else B := y_ite (fun h => h1 (V.str.inj h)) fun h => h2 fun z => h (by rw [z])
theorem y_iteSN {a b : Str} {A B : Prop} (h1 : a ≠ b → A) (h2 : a = b → B) : if (!decide (V.str a = V.str b)) = true then A else B := y_iteN (fun h => h1 fun z => h (by rw [z])) fun h => h2 (V.str.inj h)
theorem y_true {A B : Prop} (h : A) : if true = true then A else B := by rw [if_pos rfl]; exact h
theorem y_notT {A B : Prop} (h : B) : if (!true) = true then A else B := by rw [if_neg (by decide)]; exact h
theorem y_notF {A B : Prop} (h : A) : if (!false) = true then A else B := by rw [if_pos (by decide)]; exact h
theorem y_false {A B : Prop} (h : B) : if false = true then A else B := by rw [if_neg (by decide)]; exact h

/-! ### operators on values -/
theorem y_addI {i j : Int} (q : Q (.int (i + j)) H) : rAddU K (.int i) (.int j) H Q := .inl ⟨i, j, rfl, rfl, q⟩
theorem y_addS {i j : Str} (h : i.length + j.length ≤ sizeLine) (q : Q (.str (i ++ j)) H) : rAddU K (.str i) (.str j) H Q := .inr (.inl ⟨i, j, rfl, rfl, h, q⟩)
theorem y_subI {i j : Int} (q : Q (.int (i - j)) H) : rSubI (.int i) (.int j) H Q := ⟨i, j, rfl, rfl, q⟩
theorem y_mulI {i j : Int} (h : CMul i j) (q : Q (.int (i * j)) H) : rMulI (.int i) (.int j) H Q := ⟨i, j, rfl, rfl, h, q⟩
theorem y_divI {i j : Int} (h : CDivW i j) (q : Q (.int (i / j)) H) : rDivI (.int i) (.int j) H Q := ⟨i, j, rfl, rfl, h, q⟩
theorem y_modI {i j : Int} (h : 0 < j) (q : Q (.int (i % j)) H) : rModI (.int i) (.int j) H Q := ⟨i, j, rfl, rfl, h, q⟩
theorem y_powI {i j : Int} (h : CPowW i j) (q : Q (.int (i ^ j.toNat)) H) : rPowI (.int i) (.int j) H Q := ⟨i, j, rfl, rfl, h, q⟩
theorem y_negI {i : Int} (q : Q (.int (-i)) H) : rNegI (.int i) H Q := ⟨i, rfl, q⟩
theorem y_ltI {i j : Int} (q : Q (.bl (decide (i < j))) H) : rLtU (.int i) (.int j) H Q := .inl ⟨i, j, rfl, rfl, q⟩
theorem y_ltS {i j : Str} (q : Q (.bl (decide (i.cps.toList < j.cps.toList))) H) : rLtU (.str i) (.str j) H Q := .inr ⟨i, j, rfl, rfl, q⟩
theorem y_leI {i j : Int} (q : Q (.bl (decide (i ≤ j))) H) : rLeU (.int i) (.int j) H Q := .inl ⟨i, j, rfl, rfl, q⟩
theorem y_leS {i j : Str} (q : Q (.bl (!decide (j.cps.toList < i.cps.toList))) H) : rLeU (.str i) (.str j) H Q := .inr ⟨i, j, rfl, rfl, q⟩
theorem y_gtI {i j : Int} (q : Q (.bl (decide (j < i))) H) : rGtI (.int i) (.int j) H Q := ⟨i, j, rfl, rfl, q⟩
theorem y_geI {i j : Int} (q : Q (.bl (decide (j ≤ i))) H) : rGeI (.int i) (.int j) H Q := ⟨i, j, rfl, rfl, q⟩
theorem y_eqI {i j : Int} (q : Q (.bl (decide (V.int i = V.int j))) H) : rEqU K (.int i) (.int j) H Q := .inl ⟨rfl, q⟩
theorem y_eqS {i j : Str} (q : Q (.bl (decide (V.str i = V.str j))) H) : rEqU K (.str i) (.str j) H Q := .inl ⟨rfl, q⟩
theorem y_neI {i j : Int} (q : Q (.bl (!decide (V.int i = V.int j))) H) : rNeU K (.int i) (.int j) H Q := .inl ⟨rfl, q⟩
theorem y_neS {i j : Str} (q : Q (.bl (!decide (V.str i = V.str j))) H) : rNeU K (.str i) (.str j) H Q := .inl ⟨rfl, q⟩
theorem y_isN (q : Q (.bl (decide (x = .non))) H) : rIsNU x .non H Q := ⟨rfl, q⟩
theorem y_notN (q : Q (.bl (!decide (x = .non))) H) : rNotNU x .non H Q := ⟨rfl, q⟩
theorem y_isN0 (q : Q (.bl true) H) : rIsNU .non .non H Q := ⟨rfl, q⟩
theorem y_isN1 {a : Addr} (q : Q (.bl false) H) : rIsNU (.ref a) .non H Q := ⟨rfl, q⟩
theorem y_isN2 {a : Int} (q : Q (.bl false) H) : rIsNU (.int a) .non H Q := ⟨rfl, q⟩
theorem y_notN0 (q : Q (.bl false) H) : rNotNU .non .non H Q := ⟨rfl, q⟩
theorem y_notN1 {a : Addr} (q : Q (.bl true) H) : rNotNU (.ref a) .non H Q := ⟨rfl, q⟩
theorem y_notN2 {a : Int} (q : Q (.bl true) H) : rNotNU (.int a) .non H Q := ⟨rfl, q⟩
theorem y_eqD {d e : PyData} (h1 : Dp K H x d) (h2 : Dp K H y e) (s1 : SeqAt.shaped d = true) (s2 : SeqAt.shaped e = true) (q : Q (.bl (PyData.eqv d e)) H) : rEqU K x y H Q := .inr (.inl ⟨d, e, h1, h2, s1, s2, q⟩)
theorem y_neD {d e : PyData} (h1 : Dp K H x d) (h2 : Dp K H y e) (s1 : SeqAt.shaped d = true) (s2 : SeqAt.shaped e = true) (q : Q (.bl (!PyData.eqv d e)) H) : rNeU K x y H Q := .inr (.inl ⟨d, e, h1, h2, s1, s2, q⟩)
/-- != of two tuples that are alike -/
theorem y_neA {n : Nat} {a b : Addr} {xs ys : List V} (hn : n ≤ 60) (h1 : SqT K H a xs) (h2 : SqT K H b ys) (h : Paired (Al K H n) xs ys) (q : Q (.bl false) H) : rNeU K (.ref a) (.ref b) H Q := .inr (.inr (.inl ⟨n, a, b, xs, ys, hn, rfl, rfl, h1, h2, h, q⟩))
theorem y_eqA {n : Nat} (hn : n ≤ 60) (h : AlR K H (Al K H n) x y) (q : Q (.bl true) H) : rEqU K x y H Q := .inr (.inr (.inl ⟨n, hn, h, q⟩))
/-- a list and the empty list -/
theorem y_eqE {a b : Addr} {xs : List V} (h1 : SqL K H a xs) (h2 : SqL K H b []) (q : Q (.bl xs.isEmpty) H) : rEqU K (.ref a) (.ref b) H Q := .inr (.inr (.inr ⟨a, b, xs, rfl, rfl, h1, h2, q⟩))
theorem y_neE {a b : Addr} {xs : List V} (h1 : SqL K H a xs) (h2 : SqL K H b []) (q : Q (.bl (!xs.isEmpty)) H) : rNeU K (.ref a) (.ref b) H Q := .inr (.inr (.inr ⟨a, b, xs, rfl, rfl, h1, h2, q⟩))

/-! ### built-in calls -/
def rLenU (K : PySem.W.Frag) : List V → Hp → VK → Prop := fun xs H Q => (∃ x n, xs = [x] ∧ LenV K x H n ∧ Q (.int n) H) ∨ ∃ a kvs, xs = [V.ref a] ∧ Rd H a (.dK kvs) ∧ Q (.int kvs.length) H
/-- len of a dict, locked perhaps -/
theorem call_lenR {X : Cx} : CallR X (.builtin "len") (fun xs H Q => ∃ a kvs, xs = [V.ref a] ∧ Rd H a (.dK kvs) ∧ Q (.int kvs.length) H) := by
  intro pins s σ H xs us Q I r h
  obtain ⟨a, kvs, rfl, ha, q⟩ := h
  obtain ⟨u, rfl, ru⟩ := vals1 r
  obtain rfl : u = Value.ref a := ru
  exact d_len I ha fun t s2 I2 => ⟨.int kvs.length, H, I2, ⟨t, rfl⟩, q⟩
theorem call_lenU {X : Cx} {K : PySem.W.Frag} (hK : X.K = K) : CallR X (.builtin "len") (rLenU K) := hK ▸ CallR.or call_len call_lenR
theorem y_lenL {a : Addr} {xs : List V} (h : SqL K H a xs) (q : Q (.int xs.length) H) : rLenU K [.ref a] H Q := .inl ⟨_, _, rfl, .inl ⟨xs, h, rfl⟩, q⟩
theorem y_lenT {a : Addr} {xs : List V} (h : SqT K H a xs) (q : Q (.int xs.length) H) : rLenU K [.ref a] H Q := .inl ⟨_, _, rfl, .inr ⟨xs, h, rfl⟩, q⟩
theorem y_lenS {z : Str} (h : z.length ≤ sizeLine) (q : Q (.int z.length) H) : rLenU K [.str z] H Q := .inl ⟨_, _, rfl, ⟨h, rfl⟩, q⟩
theorem y_lenD {a : Addr} {kvs : List (Key × V)} (h : Rd H a (.dK kvs)) (q : Q (.int kvs.length) H) : rLenU K [.ref a] H Q := .inr ⟨a, kvs, rfl, h, q⟩
def rMax2 : List V → Hp → VK → Prop := fun xs H Q => ∃ i j, xs = [.int i, .int j] ∧ Q (.int (if j > i then j else i)) H
def rMin2 : List V → Hp → VK → Prop := fun xs H Q => ∃ i j, xs = [.int i, .int j] ∧ Q (.int (if j < i then j else i)) H
theorem call_max2U {X : Cx} (hc : X.calm = true) : CallR X (.builtin "max") rMax2 := call_max2 hc
theorem call_min2U {X : Cx} (hc : X.calm = true) : CallR X (.builtin "min") rMin2 := call_min2 hc
theorem y_max2 {i j : Int} (q : Q (.int (max i j)) H) : rMax2 [.int i, .int j] H Q := ⟨i, j, rfl, by
  have e : (if j > i then j else i) = max i j := by omega
  rw [e]; exact q⟩
theorem y_min2 {i j : Int} (q : Q (.int (min i j)) H) : rMin2 [.int i, .int j] H Q := ⟨i, j, rfl, by
  have e : (if j < i then j else i) = min i j := by omega
  rw [e]; exact q⟩
def rListOf (K : PySem.W.Frag) : List V → Hp → VK → Prop := fun xs H Q => ∃ p ys, xs = [.ref p] ∧ (SqL K H p ys ∨ SqT K H p ys) ∧ ∀ l, H l = none → Q (.ref l) (upd H l (.lst ys))
theorem call_listU {X : Cx} {K : PySem.W.Frag} (hK : X.K = K) : CallR X (.type "list") (rListOf K) := hK ▸ call_list_of
def rTupOf (K : PySem.W.Frag) : List V → Hp → VK → Prop := fun xs H Q => ∃ p ys, xs = [.ref p] ∧ ((SqL K H p ys ∧ ∀ l, H l = none → Q (.ref l) (upd H l (.tup ys))) ∨ (SqT K H p ys ∧ Q (.ref p) H))
theorem call_tupU {X : Cx} {K : PySem.W.Frag} (hK : X.K = K) : CallR X (.type "tuple") (rTupOf K) := hK ▸ call_tuple_of

/-! ### subscripts -/
theorem y_ixL {p : Addr} {xs : List V} {i : Int} (h : SqL K H p xs) (ha : atI xs i = some v) (q : Q v H) : rIxU K (.ref p) (.int i) H Q := .inl (.inl ⟨p, xs, i, v, rfl, rfl, h, ha, q⟩)
theorem y_ixT {p : Addr} {xs : List V} {i : Int} (h : SqT K H p xs) (ha : atI xs i = some v) (q : Q v H) : rIxU K (.ref p) (.int i) H Q := .inl (.inr (.inl ⟨p, xs, i, v, rfl, rfl, h, ha, q⟩))
theorem y_ixS {z : Str} {i : Int} {c : Nat} (h : z.length ≤ sizeLine) (ha : atI z.cps.toList i = some c) (q : Q (.str ⟨#[c]⟩) H) : rIxU K (.str z) (.int i) H Q := .inl (.inr (.inr ⟨z, i, c, rfl, rfl, h, ha, q⟩))
theorem y_ixD {a : Addr} {kvs : List (Key × V)} {k : Key} (h : Rd H a (.dK kvs)) (hk : y = kV k) (hv : valV kvs k = some v) (q : Q v H) : rIxU K (.ref a) y H Q := .inr ⟨a, v, rfl, .inl ⟨kvs, k, h, hk, hv.symm⟩, q⟩
theorem y_inD {a : Addr} {kvs : List (Key × V)} {k : Key} (h : Rd H a (.dK kvs)) (hk : x = kV k) (q : Q (.bl (valV kvs k).isSome) H) : rInU K x (.ref a) H Q := .inr (.inr ⟨a, _, rfl, .inl ⟨kvs, k, h, hk, rfl⟩, q⟩)
theorem y_notInD {a : Addr} {kvs : List (Key × V)} {k : Key} (h : Rd H a (.dK kvs)) (hk : x = kV k) (q : Q (.bl (!(valV kvs k).isSome)) H) : rNotInU K x (.ref a) H Q := .inr (.inr ⟨a, _, rfl, .inl ⟨kvs, k, h, hk, rfl⟩, q⟩)
theorem y_inL {a : Addr} {xs : List V} (h : SqL K H a xs) (hx : flatV x = true) (hf : xs.all flatV = true) (q : Q (.bl (inV x xs)) H) : rInU K x (.ref a) H Q := .inl ⟨a, xs, rfl, .inl h, hx, hf, q⟩
theorem y_notInL {a : Addr} {xs : List V} (h : SqL K H a xs) (hx : flatV x = true) (hf : xs.all flatV = true) (q : Q (.bl (!inV x xs)) H) : rNotInU K x (.ref a) H Q := .inl ⟨a, xs, rfl, .inl h, hx, hf, q⟩
theorem y_inSg {c : Nat} {z : Str} (q : Q (.bl (decide (c ∈ z.cps.toList))) H) : rInU K (.str ⟨#[c]⟩) (.str z) H Q := .inr (.inl ⟨c, z, rfl, rfl, q⟩)
theorem y_notInSg {c : Nat} {z : Str} (q : Q (.bl (!decide (c ∈ z.cps.toList))) H) : rNotInU K (.str ⟨#[c]⟩) (.str z) H Q := .inr (.inl ⟨c, z, rfl, rfl, q⟩)
end

/-! ### with the state -/
section
variable {K : PySem.W.Frag} {σ : L2.St} {e : En} {B H : Hp} {L : Led} {Q : VK} {ta tb te : TE} {tl : TA} {v x y : V} {xs ys : List V} {a b p : Addr} {o : HO} {QT : Bool → Hp → Prop}

/-- a thing is laid: it is wanted of each place -/
def NewK (o : HO) (Q : VK) : Hp → Prop := fun H => ∀ p, H p = none → Q (.ref p) (upd H p o)
/-- .. never changed again -/
theorem y_newI (S : Sy e B H L) (k : ∀ p B' H', Same B B' → B' p = some o → e.H p = none → Sy e B' H' L → Q (.ref p) H') : NewK o Q H := fun p hp => by
  obtain ⟨s1, s2⟩ := S.newI (o := o) hp
  refine k p _ _ s1 upd_same ?_ s2
  cases q : e.H p with
  | none => rfl
  | some x => exact absurd hp (S.there p (by rw [q]; simp))
/-- .. that may be changed -/
theorem y_newM (S : Sy e B H L) (k : ∀ p H', e.H p = none → Sy e B H' ((p, o) :: L) → Q (.ref p) H') : NewK o Q H := fun p hp => by
  obtain ⟨s1, s2⟩ := S.newM (o := o) hp
  exact k p _ s1 s2
/-- .. behind the first of the ledger -/
theorem y_newM1 {q : Addr × HO} (S : Sy e B H (q :: L)) (k : ∀ p H', e.H p = none → Sy e B H' (q :: (p, o) :: L) → Q (.ref p) H') : NewK o Q H := y_newM S fun p H' h S' => k p H' h S'.swap
theorem y_tup (h : tl σ H fun xs H1 => xs.length ≤ sizeLine ∧ NewK (.tup xs) Q H1) : tTup tl σ H Q := h
theorem y_lst (h : tl σ H fun xs H1 => xs.length ≤ sizeLine ∧ NewK (.lst xs) Q H1) : tLst tl σ H Q := h
theorem y_catL {l b : Addr} (S : Sy e B H L) (h1 : H l = some (.lst xs)) (h2 : H b = some (.lst ys)) (hl : xs.length + ys.length ≤ sizeLine) (q : NewK (.lst (xs ++ ys)) Q H) : rAddU K (.ref l) (.ref b) H Q := .inr (.inr (.inl ⟨l, b, xs, ys, rfl, rfl, h1, h2, hl, q⟩))
theorem y_listOf {p : Addr} (h : SqL K H p xs) (q : NewK (.lst xs) Q H) : rListOf K [.ref p] H Q := ⟨p, xs, rfl, .inl h, q⟩
theorem y_listOfT {p : Addr} (h : SqT K H p xs) (q : NewK (.lst xs) Q H) : rListOf K [.ref p] H Q := ⟨p, xs, rfl, .inr h, q⟩
theorem y_tupOf {p : Addr} (h : SqL K H p xs) (q : NewK (.tup xs) Q H) : rTupOf K [.ref p] H Q := ⟨p, xs, rfl, .inl ⟨h, q⟩⟩
theorem y_slL {p : Addr} {lo hi : Option Int} (h : SqL K H p xs) (q : NewK (.lst (cutV xs lo hi)) Q H) : rSlU K (.ref p) lo hi H Q := .inl ⟨p, xs, rfl, h, q⟩
theorem y_slS {z : Str} {lo hi : Option Int} (h : z.length ≤ sizeLine) (q : Q (.str (cutS z lo hi)) H) : rSlU K (.str z) lo hi H Q := .inr ⟨z, rfl, h, q⟩

/-! ### what stands -/
theorem Sy.d (S : Sy e B H L) {dd : PyData} (r : Dp K B v dd) : Dp K H v dd := Sub.d S.bh r
theorem Sy.l (S : Sy e B H L) (r : SqL K B a xs) : SqL K H a xs := S.bh.l r
theorem Sy.t (S : Sy e B H L) (r : SqT K B a xs) : SqT K H a xs := S.bh.t r
theorem Sy.rd (S : Sy e B H L) {u : HO} (r : B a = some u) : Rd H a u := S.bh.rd (.inl r)
theorem Sy.lst (S : Sy e B H L) (r : B a = some (.lst xs)) : H a = some (.lst xs) := S.bh.lst r
theorem Sy.tup (S : Sy e B H L) (r : B a = some (.tup xs)) : H a = some (.tup xs) := S.bh.tup r
theorem sqL (h : H a = some (.lst xs)) : SqL K H a xs := .inl (.inl h)
theorem sqT (h : H a = some (.tup xs)) : SqT K H a xs := .inl (.inl h)

/-! ### list methods on the ledger -/
theorem y_app0 {l : Addr} (S : Sy e B H ((l, .lst xs) :: L)) (hl : xs.length < sizeLine) (k : ∀ H', Sy e B H' ((l, .lst (xs ++ [v])) :: L) → Q .non H') : rAppend (.ref l) [v] H Q :=
  ⟨l, xs, v, rfl, rfl, S.g0, hl, k _ (S.w0 _)⟩
theorem y_app1 {l : Addr} {q : Addr × HO} (S : Sy e B H (q :: (l, .lst xs) :: L)) (hl : xs.length < sizeLine) (k : ∀ H', Sy e B H' (q :: (l, .lst (xs ++ [v])) :: L) → Q .non H') : rAppend (.ref l) [v] H Q :=
  ⟨l, xs, v, rfl, rfl, S.g1, hl, k _ (S.w1 _)⟩
theorem y_app2 {l : Addr} {q1 q2 : Addr × HO} (S : Sy e B H (q1 :: q2 :: (l, .lst xs) :: L)) (hl : xs.length < sizeLine) (k : ∀ H', Sy e B H' (q1 :: q2 :: (l, .lst (xs ++ [v])) :: L) → Q .non H') : rAppend (.ref l) [v] H Q :=
  ⟨l, xs, v, rfl, rfl, S.g2, hl, k _ (S.w2 _)⟩
theorem y_app3 {l : Addr} {q1 q2 q3 : Addr × HO} (S : Sy e B H (q1 :: q2 :: q3 :: (l, .lst xs) :: L)) (hl : xs.length < sizeLine) (k : ∀ H', Sy e B H' (q1 :: q2 :: q3 :: (l, .lst (xs ++ [v])) :: L) → Q .non H') : rAppend (.ref l) [v] H Q :=
  ⟨l, xs, v, rfl, rfl, S.g3, hl, k _ (S.w3 _)⟩
theorem tyL {l : Addr} (h : H l = some (.lst xs)) : tyV K "list" (.ref l) H := .inl ⟨rfl, _, .inl (.inl h)⟩
/-- pop at a place -/
theorem y_popAt1 {l : Addr} {q : Addr × HO} {i : Int} {j : Nat} (S : Sy e B H (q :: (l, .lst xs) :: L)) (hi : i = (j : Int)) (hj : xs[j]? = some v) (hs : xs.length ≤ sizeLine) (k : ∀ H', Sy e B H' (q :: (l, .lst (xs.eraseIdx j)) :: L) → Q v H') : rPopAt (.ref l) [.int i] H Q := by
  have h1 : j < xs.length := (List.getElem?_eq_some_iff.mp hj).1
  have h2 : sizeLine = 16777216 := sizeLine_eq
  refine ⟨l, xs, i, j, v, rfl, rfl, S.g1, by omega, by omega, ?_, hj, k _ (S.w1 _)⟩
  rw [hi]; exact PySem.StrLaws.seqIndex_nonneg (by omega) (by omega)
theorem y_popAt2 {l : Addr} {q1 q2 : Addr × HO} {i : Int} {j : Nat} (S : Sy e B H (q1 :: q2 :: (l, .lst xs) :: L)) (hi : i = (j : Int)) (hj : xs[j]? = some v) (hs : xs.length ≤ sizeLine) (k : ∀ H', Sy e B H' (q1 :: q2 :: (l, .lst (xs.eraseIdx j)) :: L) → Q v H') : rPopAt (.ref l) [.int i] H Q := by
  have h1 : j < xs.length := (List.getElem?_eq_some_iff.mp hj).1
  have h2 : sizeLine = 16777216 := sizeLine_eq
  refine ⟨l, xs, i, j, v, rfl, rfl, S.g2, by omega, by omega, ?_, hj, k _ (S.w2 _)⟩
  rw [hi]; exact PySem.StrLaws.seqIndex_nonneg (by omega) (by omega)
/-- o[i] = v -/
theorem y_gsub {to ti : TE} {tset : TSet} {N : L2.St → Hp → Prop} (h : to σ H fun o H1 => ti σ H1 fun i H2 => tset o i v H2 fun H3 => N σ H3) : gSub to ti tset v σ H N := h
theorem y_setL0 {l : Addr} {i : Int} {j : Nat} {N : Hp → Prop} (S : Sy e B H ((l, .lst xs) :: L)) (hj : ixN xs.length i = some j) (k : ∀ H', Sy e B H' ((l, .lst (xs.set j v)) :: L) → N H') : rSetU (.ref l) (.int i) v H N := .inl ⟨l, xs, i, j, rfl, rfl, S.g0, hj, k _ (S.w0 _)⟩
theorem y_setL1 {l : Addr} {q : Addr × HO} {i : Int} {j : Nat} {N : Hp → Prop} (S : Sy e B H (q :: (l, .lst xs) :: L)) (hj : ixN xs.length i = some j) (k : ∀ H', Sy e B H' (q :: (l, .lst (xs.set j v)) :: L) → N H') : rSetU (.ref l) (.int i) v H N := .inl ⟨l, xs, i, j, rfl, rfl, S.g1, hj, k _ (S.w1 _)⟩
theorem y_setD0 {d : Addr} {kvs : List (Key × V)} {kk : Key} {N : Hp → Prop} (S : Sy e B H ((d, .dK kvs) :: L)) (hk : x = kV kk) (hl : kvs.length < sizeLine) (k : ∀ H', Sy e B H' ((d, .dK (putK kvs kk v)) :: L) → N H') : rSetU (.ref d) x v H N := .inr ⟨d, _, rfl, .inl ⟨kvs, kk, S.g0, hk, hl, rfl⟩, k _ (S.w0 _)⟩
theorem y_setD1 {d : Addr} {q : Addr × HO} {kvs : List (Key × V)} {kk : Key} {N : Hp → Prop} (S : Sy e B H (q :: (d, .dK kvs) :: L)) (hk : x = kV kk) (hl : kvs.length < sizeLine) (k : ∀ H', Sy e B H' (q :: (d, .dK (putK kvs kk v)) :: L) → N H') : rSetU (.ref d) x v H N := .inr ⟨d, _, rfl, .inl ⟨kvs, kk, S.g1, hk, hl, rfl⟩, k _ (S.w1 _)⟩
theorem y_setD2 {d : Addr} {q1 q2 : Addr × HO} {kvs : List (Key × V)} {kk : Key} {N : Hp → Prop} (S : Sy e B H (q1 :: q2 :: (d, .dK kvs) :: L)) (hk : x = kV kk) (hl : kvs.length < sizeLine) (k : ∀ H', Sy e B H' (q1 :: q2 :: (d, .dK (putK kvs kk v)) :: L) → N H') : rSetU (.ref d) x v H N := .inr ⟨d, _, rfl, .inl ⟨kvs, kk, S.g2, hk, hl, rfl⟩, k _ (S.w2 _)⟩

/-! ### loops -/
def ForG (J : It) (g : TG) (tb : TS) (D : Ends) (σ : L2.St) (H : Hp) : Prop := ∃ W : Nat → Nat → L2.St → Hp → Prop, (∃ m, W 0 m σ H) ∧ ∀ i m σ H, W i m σ H →
  (J.stop i H ∧ D.nx σ H) ∨ (J.go i H ∧ ∃ N : L2.St → Hp → Prop, (∀ σ' H', N σ' H' → ∃ m', m' < m ∧ W (i + 1) m' σ' H') ∧ ∀ x H', J.yld i H x H' → g x σ H' fun σ2 H2 => tb { D with nx := N, ct := N, bk := D.nx } σ2 H2)
theorem y_for {wi : TI} {g : TG} {tb : TS} {D : Ends} (h : wi σ H fun J H1 => ForG J g tb D σ H1) : tFor wi g tb D σ H := h
theorem y_forG {J : It} {n : Nat} {G : Hp → Prop} {Y : Nat → Hp → V → Hp → Prop} {g : TG} {tb : TS} {nx bk ct : L2.St → Hp → Prop} {rt : VK} (w : Walk J n G Y) (Pv : Nat → L2.St → Hp → Prop) (h0 : Pv 0 σ H) (hG : ∀ i σ H, i ≤ n → Pv i σ H → G H)
    (hs : ∀ i x σ H H', i < n → Pv i σ H → Y i H x H' → g x σ H' fun σ2 H2 => tb ⟨Pv (i + 1), rt, nx, Pv (i + 1)⟩ σ2 H2) (hd : ∀ σ H, Pv n σ H → nx σ H) : ForG J g tb ⟨nx, rt, bk, ct⟩ σ H :=
  for_it w (D := ⟨nx, rt, bk, ct⟩) Pv h0 hG hs hd
def LcG (J : It) (g : TG) (tt : TT) (te : TE) (vs : List Nat) (σ : L2.St) (Q : VK) : Hp → Prop := fun H1 => ∀ D, H1 D = none → ∃ W : Nat → Nat → Hp → Prop, (∃ m, W 0 m (upd H1 D (.lst []))) ∧ ∀ i m H, W i m H →
  (J.stop i H ∧ Q (.ref D) H) ∨ (J.go i H ∧ ∃ Nx : Hp → Prop, (∀ H', Nx H' → ∃ m', m' < m ∧ W (i + 1) m' H') ∧ ∀ x H', J.yld i H x H' → g x (wipe σ vs) H' fun σ2 H2 => wipe σ2 vs = wipe σ vs ∧ tt σ2 H2 fun b H3 =>
    if b = true then te σ2 H3 fun y H4 => ∃ acc, H4 D = some (.lst acc) ∧ acc.length < sizeLine ∧ Nx (upd H4 D (.lst (acc ++ [y]))) else Nx H3)
theorem y_lc {wi : TI} {g : TG} {tt : TT} {vs : List Nat} (h : wi σ H fun J H1 => LcG J g tt te vs σ Q H1) : tLc wi g tt te vs σ H Q := h
/-- the item is put, the item is left out -/
def LcK (e : En) (B : Hp) (D : Addr) (Pv : Nat → Hp → List V → Led → Prop) (i : Nat) (y : V) (H4 : Hp) : Prop := ∃ B4 acc L4, Sy e B4 H4 ((D, .lst acc) :: L4) ∧ Same B B4 ∧ acc.length < sizeLine ∧ Pv (i + 1) B4 (acc ++ [y]) L4
def LcN (e : En) (B : Hp) (D : Addr) (Pv : Nat → Hp → List V → Led → Prop) (i : Nat) (H4 : Hp) : Prop := ∃ B4 acc L4, Sy e B4 H4 ((D, .lst acc) :: L4) ∧ Same B B4 ∧ Pv (i + 1) B4 acc L4
theorem y_lcG {J : It} {n : Nat} {G : Hp → Prop} {Y : Nat → Hp → V → Hp → Prop} {g : TG} {tt : TT} {vs : List Nat} (w : Walk J n G Y) (S : Sy e B H L) (Pv : Nat → Hp → List V → Led → Prop) (h0 : Pv 0 B [] L)
    (hG : ∀ i B1 H1 acc L1 D, Pv i B1 acc L1 → Same B B1 → Sy e B1 H1 ((D, .lst acc) :: L1) → G H1)
    (hs : ∀ i x B1 H1 H1' acc L1 D (Kp : VK) (Kn : Hp → Prop), i < n → Pv i B1 acc L1 → Same B B1 → e.H D = none → Sy e B1 H1 ((D, .lst acc) :: L1) → Y i H1 x H1' → (∀ y H4, LcK e B D Pv i y H4 → Kp y H4) → (∀ H4, LcN e B D Pv i H4 → Kn H4) →
      g x (wipe σ vs) H1' fun σ2 H2 => wipe σ2 vs = wipe σ vs ∧ tt σ2 H2 fun b H3 => if b = true then te σ2 H3 Kp else Kn H3)
    (hd : ∀ B1 H1 acc L1 D, Pv n B1 acc L1 → Same B B1 → e.H D = none → Sy e B1 H1 ((D, .lst acc) :: L1) → Q (.ref D) H1) : LcG J g tt te vs σ Q H := by
  intro D hD
  obtain ⟨s1, s2⟩ := S.newM (o := .lst []) hD
  refine lc_it w (fun i H1 => ∃ B1 acc L1, Sy e B1 H1 ((D, .lst acc) :: L1) ∧ Same B B1 ∧ Pv i B1 acc L1) ⟨B, [], L, s2, Same.refl B, h0⟩ ?_ ?_ ?_
  · rintro i H1 hi ⟨B1, acc, L1, S1, b1, p1⟩
    exact hG i B1 H1 acc L1 D p1 b1 S1
  · rintro i x H1 H1' hi ⟨B1, acc, L1, S1, b1, p1⟩ hy
    refine hs i x B1 H1 H1' acc L1 D _ _ hi p1 b1 s1 S1 hy (fun y H4 q => ?_) (fun H4 q => q)
    obtain ⟨B4, acc4, L4, S4, b4, l4, p4⟩ := q
    exact ⟨acc4, S4.g0, l4, B4, _, L4, S4.w0 _, b4, p4⟩
  · rintro H1 ⟨B1, acc, L1, S1, b1, p1⟩
    exact hd B1 H1 acc L1 D p1 b1 s1 S1
end
end Y
/-! Defs by their names, and their promises in the words of the state. -/
namespace Y
open PySem PySem.Spec PyProof.Rows L2

/-- the def called x keeps the promise sp (every parameter is given by place) -/
def Ok (P : Program) (w : World) (K : PySem.W.Frag) (mg : Str → Option Value) (base : Heap) (k : Nat) (x : Str) (ps : List Str) (sp : Sp) : Prop :=
  ∃ f fd, mg x = some (.ref f) ∧ PySem.W.keepIn K (.ref f) = true ∧ Binds K fd ps [] ∧ FnOk P w K mg base CX0 k f fd ps sp
/-- .. the last ones by their defaults -/
def OkD (P : Program) (w : World) (K : PySem.W.Frag) (mg : Str → Option Value) (base : Heap) (k : Nat) (x : Str) (ps : List Str) (dvs : List V) (sp : Sp) : Prop :=
  ∃ f fd ds, mg x = some (.ref f) ∧ PySem.W.keepIn K (.ref f) = true ∧ Vals dvs ds ∧ Binds K fd ps ds ∧ FnOk P w K mg base CX0 k f fd ps sp
/-- .. n by place, those called ks by name -/
def OkN (P : Program) (w : World) (K : PySem.W.Frag) (mg : Str → Option Value) (base : Heap) (k : Nat) (x : Str) (ps : List Str) (n : Nat) (ks : List Str) (gV : List V → List V → List V) (sp : Sp) : Prop :=
  ∃ f fd g, mg x = some (.ref f) ∧ PySem.W.keepIn K (.ref f) = true ∧ KBn K fd ps n ks g gV ∧ FnOk P w K mg base CX0 k f fd ps sp
section
variable {X : Cx} {k : Nat} {x : Str} {ps : List Str} {sp : Sp} {p pos : Pos} {e : Expr} {es : List Expr} {t tk : TA} {dvs : List V} {n : Nat} {ks : List Str} {gV : List V → List V → List V} {kws : List Keyword}
theorem pe_callO (O : Ok X.prog X.w X.K X.mg X.base k x ps sp) (hr : Room k X.A) (hg : Gl X x) (ha : PA X (e :: es) t) (hdb : (x == ("__debug__" : Str)) = false := by decide) (he : starEach (e :: es) X.env = (false, eval e X.env) :: starEach es X.env := by rfl) (hpl : (backTo pos (starEach es X.env)).any (·.1) = false := by rfl) :
    PE X (.Call (.Name x p) (e :: es) [] pos) (tCall sp [] E0 t) := by
  obtain ⟨f, fd, h1, h2, h3, h4⟩ := O
  exact pe_call h4 hr hg h1 h2 h3 .nil pass0 ha hdb he hpl
theorem pe_callOD (O : OkD X.prog X.w X.K X.mg X.base k x ps dvs sp) (hr : Room k X.A) (hg : Gl X x) (ha : PA X (e :: es) t) (hdb : (x == ("__debug__" : Str)) = false := by decide) (he : starEach (e :: es) X.env = (false, eval e X.env) :: starEach es X.env := by rfl) (hpl : (backTo pos (starEach es X.env)).any (·.1) = false := by rfl) :
    PE X (.Call (.Name x p) (e :: es) [] pos) (tCall sp dvs E0 t) := by
  obtain ⟨f, fd, ds, h1, h2, h0, h3, h4⟩ := O
  exact pe_call h4 hr hg h1 h2 h3 h0 pass0 ha hdb he hpl
theorem pe_callON (O : OkN X.prog X.w X.K X.mg X.base k x ps n ks gV sp) (hr : Room k X.A) (hg : Gl X x) (ha : PA X (e :: es) t) (hkw : PK X kws tk) (hall : (backToKw pos (keywordEach kws X.env)).all (·.1.isSome) = true := by rfl) (hks : (backToKw pos (keywordEach kws X.env)).filterMap (·.1) = ks := by rfl)
    (hdb : (x == ("__debug__" : Str)) = false := by decide) (he : starEach (e :: es) X.env = (false, eval e X.env) :: starEach es X.env := by rfl)
    (hpl : ((backTo pos (starEach (e :: es) X.env)).any (·.1) || (backToKw pos (keywordEach kws X.env)).any (·.1.isNone)) = false := by rfl) :
    PE X (.Call (.Name x p) (e :: es) kws pos) (tCallN n ks.length sp gV E0 t tk) := by
  obtain ⟨f, fd, g, h1, h2, h3, h4⟩ := O
  exact pe_callN h4 hr hg h1 h2 h3 pass0 ha hkw hall hks hdb he hpl
end
section
variable {P : Program} {w : World} {K : PySem.W.Frag} {mg : Str → Option Value} {base : Heap} {x : Str} {st : Stmt} {kws : List (Str × V)} {N ps : List Str} {k : Nat} {φ : Ph} {f : Addr} {dvs : List V}
/-- THE RULE for a def's body -/
theorem fnY {fd : FuncData} (F : FunD K x x (defArgs st) (defBody st) (defScope st) dvs kws f fd) (S : FnScope N ps (defScope st)) (len : ∀ B vs L k, φ B vs L k → vs.length = ps.length)
    (body : ∀ (cdv : Value) (A : Around) (outer : List Env) (s : Shared) (H : Hp) (vs : List V) (Q : VK) (E : XK) (B : Hp) (L : Led) (e : En), e.Z = [] → e.H = H → Room k (A.deeper (envOfC x (defScope st) s.heap.objs.size f cdv)) → Sy e B H L →
      (φ B vs L fun B' v L' => ∀ H', Sy e B' H' L' → Q v H') →
      ∃ t, PSs (cxOf CX0 P w K mg base N x (defScope st) f cdv A outer s H E).nox (defBody st) t ∧ t ⟨fun _ H' => Q .non H', Q, fun _ _ => False, fun _ _ => False⟩ (start N vs) H) : FnOk P w K mg base CX0 (k + 1) f fd ps (spY φ) := by
  refine F.ok S (fun vs H Q E h => ?_) (fun cdv A outer s H vs Q E hr h => ?_)
  · obtain ⟨B, L, _, h⟩ := h
    exact len _ _ _ _ h
  · obtain ⟨B, L, hh, h⟩ := h
    obtain ⟨t, h1, h2⟩ := body cdv A outer s H vs Q E B L _ rfl rfl hr hh.start h
    exact ⟨t, PSs.nox h1, h2⟩
theorem Ok.mk (F : ∃ fd, FunD K x x (defArgs st) (defBody st) (defScope st) [] kws f fd) (g : mg x = some (.ref f)) (S : FnScope N ps (defScope st))
    (hb : ∀ (kV doc pm : Value) (an : Option Addr) (cdv ct : Value) (us : List Value), us.length = ps.length → bindArgs (PySem.W.fnOf x x (defArgs st) (defBody st) (defScope st) .none kV doc pm an cdv ct) ⟨us, []⟩ = pure (ps.zip us))
    (len : ∀ B vs L k, φ B vs L k → vs.length = ps.length)
    (body : ∀ (cdv : Value) (A : Around) (outer : List Env) (s : Shared) (H : Hp) (vs : List V) (Q : VK) (E : XK) (B : Hp) (L : Led) (e : En), e.Z = [] → e.H = H → Room k (A.deeper (envOfC x (defScope st) s.heap.objs.size f cdv)) → Sy e B H L →
      (φ B vs L fun B' v L' => ∀ H', Sy e B' H' L' → Q v H') →
      ∃ t, PSs (cxOf CX0 P w K mg base N x (defScope st) f cdv A outer s H E).nox (defBody st) t ∧ t ⟨fun _ H' => Q .non H', Q, fun _ _ => False, fun _ _ => False⟩ (start N vs) H) : Ok P w K mg base (k + 1) x ps (spY φ) := by
  obtain ⟨fd, F⟩ := F
  exact ⟨f, fd, g, F.kp, F.bindsN hb, fnY F S len body⟩
theorem Ok.of {sp : Sp} (F : ∃ fd, FunD K x x (defArgs st) (defBody st) (defScope st) [] kws f fd) (g : mg x = some (.ref f))
    (hb : ∀ (kV doc pm : Value) (an : Option Addr) (cdv ct : Value) (us : List Value), us.length = ps.length → bindArgs (PySem.W.fnOf x x (defArgs st) (defBody st) (defScope st) .none kV doc pm an cdv ct) ⟨us, []⟩ = pure (ps.zip us))
    (h : ∀ fd, FunD K x x (defArgs st) (defBody st) (defScope st) [] kws f fd → FnOk P w K mg base CX0 k f fd ps sp) : Ok P w K mg base k x ps sp := by
  obtain ⟨fd, F⟩ := F
  exact ⟨f, fd, g, F.kp, F.bindsN hb, h fd F⟩
/-- called with n by place and those of ks by name, no defaults -/
theorem OkN.of {sp : Sp} {n : Nat} {ks : List Str} (gA : {α : Type} → List α → List α → List α) (F : ∃ fd, FunD K x x (defArgs st) (defBody st) (defScope st) [] kws f fd) (g : mg x = some (.ref f))
    (rel : ∀ {vs zs : List V} {us ws : List Value}, Vals vs us → Vals zs ws → Vals (gA vs zs) (gA us ws))
    (hb : ∀ (kV doc pm : Value) (an : Option Addr) (cdv ct : Value) (us ws : List Value), us.length = n → ws.length = ks.length → bindArgs (PySem.W.fnOf x x (defArgs st) (defBody st) (defScope st) .none kV doc pm an cdv ct) ⟨us, ks.zip ws⟩ = pure (ps.zip (gA us ws)))
    (h : ∀ fd, FunD K x x (defArgs st) (defBody st) (defScope st) [] kws f fd → FnOk P w K mg base CX0 k f fd ps sp) : OkN P w K mg base k x ps n ks (fun vs zs => gA vs zs) sp := by
  obtain ⟨fd, F⟩ := F
  refine ⟨f, fd, fun us ws => gA us ws, g, F.kp, ⟨fun s us ws _ h1 h2 => ?_, rel⟩, h fd F⟩
  obtain ⟨oc, od, dV, kV, doc, pm, an, cdv, ct, osl, rfl, lk, hcd, hD, hK⟩ := F.ex
  rcases hD with ⟨_, rfl⟩ | ⟨e, _⟩
  · exact .of_eq (hb kV doc pm an cdv ct us ws h1 h2)
  · exact absurd rfl e
/-- with defaults: n are written, the defaults from the j-th on fill up -/
theorem OkD.of {sp : Sp} (n j : Nat) (F : ∃ fd, FunD K x x (defArgs st) (defBody st) (defScope st) dvs kws f fd) (g : mg x = some (.ref f)) (hd : dvs ≠ []) (hn : n + (dvs.length - j) = ps.length)
    (hb : ∀ (T : Addr) (kV doc pm : Value) (an : Option Addr) (cdv ct : Value) (us its : List Value), us.length = n → its.length = dvs.length →
      ∃ kk, bindArgs (PySem.W.fnOf x x (defArgs st) (defBody st) (defScope st) (.ref T) kV doc pm an cdv ct) ⟨us, []⟩ = seqItems? (.ref T) >>= kk ∧ kk (some its.toArray) = pure (ps.zip (us ++ its.drop j)))
    (h : ∀ fd, FunD K x x (defArgs st) (defBody st) (defScope st) dvs kws f fd → FnOk P w K mg base CX0 k f fd ps sp) : OkD P w K mg base k x ps (dvs.drop j) sp := by
  obtain ⟨fd, F⟩ := F
  obtain ⟨ds, h1, h2⟩ := F.binds1 n j hd hn hb
  exact ⟨f, fd, ds, g, F.kp, h1, h2, h fd F⟩
/-- all are written -/
theorem OkD.all {sp : Sp} (O : OkD P w K mg base k x ps [] sp) : Ok P w K mg base k x ps sp := by
  obtain ⟨f, fd, ds, h1, h2, h3, h4, h5⟩ := O
  cases h3
  exact ⟨f, fd, h1, h2, h4, h5⟩
theorem OkN.ofD {sp : Sp} {n : Nat} {ks : List Str} (gA : {α : Type} → List α → List α → List α → List α) (F : ∃ fd, FunD K x x (defArgs st) (defBody st) (defScope st) dvs kws f fd) (g : mg x = some (.ref f)) (hd : dvs ≠ [])
    (rel : ∀ {vs zs ds : List V} {us ws is : List Value}, Vals vs us → Vals zs ws → Vals ds is → Vals (gA vs zs ds) (gA us ws is))
    (hb : ∀ (T : Addr) (kV doc pm : Value) (an : Option Addr) (cdv ct : Value) (us ws its : List Value), us.length = n → ws.length = ks.length → its.length = dvs.length →
      ∃ kk, bindArgs (PySem.W.fnOf x x (defArgs st) (defBody st) (defScope st) (.ref T) kV doc pm an cdv ct) ⟨us, ks.zip ws⟩ = seqItems? (.ref T) >>= kk ∧ kk (some its.toArray) = pure (ps.zip (gA us ws its)))
    (h : ∀ fd, FunD K x x (defArgs st) (defBody st) (defScope st) dvs kws f fd → FnOk P w K mg base CX0 k f fd ps sp) : OkN P w K mg base k x ps n ks (fun vs zs => gA vs zs dvs) sp := by
  obtain ⟨fd, F⟩ := F
  have hf := h fd F
  have kp := F.kp
  obtain ⟨oc, od, dV, kV, doc, pm, an, cdv, ct, osl, rfl, lk, hcd, hD, hK⟩ := F.ex
  rcases hD with ⟨e, _⟩ | ⟨_, T, o, its, m, rfl, lT, oT, rT⟩
  · exact absurd e hd
  · refine ⟨f, _, fun us ws => gA us ws its, g, kp, ⟨fun s us ws X h1 h2 => ?_, fun r1 r2 => rel r1 r2 rT⟩, hf⟩
    obtain ⟨kk, e1, e2⟩ := hb T kV doc pm an cdv ct us ws its h1 h2 rT.length.symm
    refine BindsTo.of_looks fun M => ?_
    rw [e1]
    exact looks_items X lT oT (.of_pure e2)
end
/-! ### a call, seen from the caller -/
section
variable {e : En} {B H : Hp} {L : Led} {φ : Ph} {vs : List V} {Q : VK} {E : XK} {a : Addr} {o : HO}
/-- nothing is handed over to be changed -/
theorem y_sp0 (S : Sy e B H L) (h : φ B vs [] fun B' v L' => ∀ H', Sy ⟨[], [], B, H⟩ B' H' L' → Q v H') : spY φ vs H Q E := ⟨B, [], S.hand0, h⟩
/-- the first of the ledger is handed over -/
theorem y_sp1 (S : Sy e B H ((a, o) :: L)) (h : φ B vs [(a, o)] fun B' v L' => ∀ H', Sy ⟨[a], [], B, H⟩ B' H' L' → Q v H') : spY φ vs H Q E := ⟨B, [(a, o)], S.hand1, h⟩
end
end Y
namespace Y
open PySem PySem.Spec PyProof.Rows L2
section
variable {K : PySem.W.Frag} {σ : L2.St} {e : En} {B H : Hp} {L : Led} {Q : VK} {te : TE} {ta : TA} {v x y : V} {xs ys : List V} {a b p : Addr} {R : It → Hp → Prop} {nx bk ct : L2.St → Hp → Prop} {rt : VK} {g : TG} {tb : TS}
/-! ### what is walked -/
def RngK (R : It → Hp → Prop) : List V → Hp → Prop := fun vs H1 => ∃ j : Int, vs = [.int j] ∧ -(2 ^ 62) ≤ j ∧ j < 2 ^ 62 ∧ R (Itr 0 j.toNat) H1
theorem y_irng1 (h : ta σ H (RngK R)) : iRng1 ta σ H R := h
theorem y_rngK {j : Int} (h1 : -(2 ^ 62) ≤ j) (h2 : j < 2 ^ 62) (q : R (Itr 0 j.toNat) H) : RngK R [.int j] H := ⟨j, rfl, h1, h2, q⟩
def RngK2 (R : It → Hp → Prop) : List V → Hp → Prop := fun vs H1 => ∃ i j : Int, vs = [.int i, .int j] ∧ (-(2 ^ 62) ≤ i ∧ i < 2 ^ 62 ∧ -(2 ^ 62) ≤ j ∧ j < 2 ^ 62) ∧ R (Itr i (j - i).toNat) H1
theorem y_irng2 (h : ta σ H (RngK2 R)) : iRng2 ta σ H R := h
theorem y_rngK2 {i j : Int} (h1 : -(2 ^ 62) ≤ i) (h2 : i < 2 ^ 62) (h3 : -(2 ^ 62) ≤ j) (h4 : j < 2 ^ 62) (q : R (Itr i (j - i).toNat) H) : RngK2 R [.int i, .int j] H := ⟨i, j, rfl, ⟨h1, h2, h3, h4⟩, q⟩
def LstK (K : PySem.W.Frag) (R : It → Hp → Prop) : VK := fun x H1 => ∃ a, x = .ref a ∧ (∃ xs, SqL K H1 a xs) ∧ R (Itl K a) H1
theorem y_ilist (h : te σ H (LstK K R)) : iList K te σ H R := h
theorem y_lstK (h : SqL K H a xs) (q : R (Itl K a) H) : LstK K R (.ref a) H := ⟨a, rfl, ⟨xs, h⟩, q⟩
def StrK (R : It → Hp → Prop) : VK := fun v H1 => ∃ x, v = .str x ∧ R (Its x) H1
theorem y_istr (h : te σ H (StrK R)) : iStr te σ H R := h
theorem y_strK {z : Str} (q : R (Its z) H) : StrK R (.str z) H := ⟨z, rfl, q⟩
def KeysK (R : It → Hp → Prop) : VK := fun x H1 => ∃ d o, x = .ref d ∧ ((∃ kvs, H1 d = some (.frz o (.dK kvs)) ∧ R (Itk d o kvs) H1) ∨ ∃ kvs, H1 d = some (.frz o (.dT kvs)) ∧ R (Itkt d o kvs) H1)
theorem y_ikeys (h : te σ H (KeysK R)) : iKeys te σ H R := h
theorem y_keysK {d : Addr} {o : Obj} {kvs : List (Key × V)} (h : H d = some (.frz o (.dK kvs))) (q : R (Itk d o kvs) H) : KeysK R (.ref d) H := ⟨d, o, rfl, .inl ⟨kvs, h, q⟩⟩
def ValsK (R : It → Hp → Prop) : VK := fun x H1 => ∃ d o kvs, x = .ref d ∧ H1 d = some (.frz o (.dK kvs)) ∧ R (Itd d o kvs) H1
theorem y_ivals (h : te σ H (ValsK R)) : iVals te σ H R := h
theorem y_valsK {d : Addr} {o : Obj} {kvs : List (Key × V)} (h : H d = some (.frz o (.dK kvs))) (q : R (Itd d o kvs) H) : ValsK R (.ref d) H := ⟨d, o, kvs, rfl, h, q⟩
def ItemsK (R : It → Hp → Prop) : VK := fun x H1 => ∃ d o kvs, x = .ref d ∧ H1 d = some (.frz o (.dK kvs)) ∧ R (Iti d o kvs) H1
theorem y_iitems (h : te σ H (ItemsK R)) : iItems te σ H R := h
theorem y_itemsK {d : Addr} {o : Obj} {kvs : List (Key × V)} (h : H d = some (.frz o (.dK kvs))) (q : R (Iti d o kvs) H) : ItemsK R (.ref d) H := ⟨d, o, kvs, rfl, h, q⟩
def ZipK (K : PySem.W.Frag) (R : It → Hp → Prop) : List V → Hp → Prop := fun vs H1 => ∃ a b xs ys, vs = [.ref a, .ref b] ∧ SqL K H1 a xs ∧ SqL K H1 b ys ∧ R (Itz K a b) H1
theorem y_izip (h : ta σ H (ZipK K R)) : iZip K ta σ H R := h
theorem y_zipK (h1 : SqL K H a xs) (h2 : SqL K H b ys) (q : R (Itz K a b) H) : ZipK K R [.ref a, .ref b] H := ⟨a, b, xs, ys, rfl, h1, h2, q⟩
def EnumK (K : PySem.W.Frag) (R : It → Hp → Prop) : List V → Hp → Prop := fun vs H1 => ∃ a xs, vs = [.ref a] ∧ SqL K H1 a xs ∧ R (Ite K a) H1
theorem y_ienum (h : ta σ H (EnumK K R)) : iEnum K ta σ H R := h
theorem y_enumK (h1 : SqL K H a xs) (q : R (Ite K a) H) : EnumK K R [.ref a] H := ⟨a, xs, rfl, h1, q⟩

/-! ### loops -/
theorem y_forR {lo : Int} {n : Nat} (Pv : Nat → L2.St → Hp → Prop) (h0 : Pv 0 σ H)
    (hs : ∀ i σ H, i < n → Pv i σ H → g (.int (lo + i)) σ H fun σ2 H2 => tb ⟨Pv (i + 1), rt, nx, Pv (i + 1)⟩ σ2 H2) (hd : ∀ σ H, Pv n σ H → nx σ H) : ForG (Itr lo n) g tb ⟨nx, rt, bk, ct⟩ σ H :=
  y_forG walk_range Pv h0 (fun _ _ _ _ _ => trivial) (fun i x σ H H' hi p y => by obtain ⟨y1, y2⟩ := y; subst y1 y2; exact hs i σ _ hi p) hd
theorem y_forL (Pv : Nat → L2.St → Hp → Prop) (h0 : Pv 0 σ H) (hG : ∀ i σ H, i ≤ xs.length → Pv i σ H → SqL K H a xs)
    (hs : ∀ i x σ H, xs[i]? = some x → Pv i σ H → g x σ H fun σ2 H2 => tb ⟨Pv (i + 1), rt, nx, Pv (i + 1)⟩ σ2 H2) (hd : ∀ σ H, Pv xs.length σ H → nx σ H) : ForG (Itl K a) g tb ⟨nx, rt, bk, ct⟩ σ H :=
  y_forG walk_list Pv h0 hG (fun i x σ H H' hi p y => by obtain ⟨y1, y2⟩ := y; subst y1; exact hs i x σ _ y2 p) hd
theorem y_forS {z : Str} (Pv : Nat → L2.St → Hp → Prop) (h0 : Pv 0 σ H)
    (hs : ∀ i c σ H, z.cps[i]? = some c → Pv i σ H → g (.str ⟨#[c]⟩) σ H fun σ2 H2 => tb ⟨Pv (i + 1), rt, nx, Pv (i + 1)⟩ σ2 H2) (hd : ∀ σ H, Pv z.cps.size σ H → nx σ H) : ForG (Its z) g tb ⟨nx, rt, bk, ct⟩ σ H :=
  y_forG walk_str Pv h0 (fun _ _ _ _ _ => trivial) (fun i x σ H H' hi p y => by obtain ⟨y1, c, y2, y3⟩ := y; subst y1 y3; exact hs i c σ _ y2 p) hd
/-- a new dict -/
theorem y_dnew (h : NewK (.dK []) Q H) : tDNewK σ H Q := h
/-! ### comprehensions that change nothing that stands -/
theorem range_bind {β γ : Type} (f : β → Option γ) : ∀ ys : List β, (List.range ys.length).filterMap (fun i => ys[i]?.bind f) = ys.filterMap f := by
  intro ys
  induction ys with
  | nil => rfl
  | cons y ys ih =>
    rw [List.length_cons, List.range_succ_eq_map, List.filterMap_cons, List.filterMap_map, List.filterMap_cons]
    have e : ((fun i => (y :: ys)[i]?.bind f) ∘ Nat.succ) = fun i => ys[i]?.bind f := by
      funext i
      simp
    rw [e, ih]
    simp
theorem pr_up {α β : Type} {Rep : Hp → α → β → Prop} (up : ∀ B B' a b, Same B B' → Rep B a b → Rep B' a b) {B B' : Hp} (s : Same B B') {l : List α} {m : List β} (h : Paired (Rep B) l m) : Paired (Rep B') l m := Paired.mapP h fun a b q => up B B' a b s q
theorem y_lcRel {β : Type} {J : It} {n : Nat} {G : Hp → Prop} {Y : Nat → Hp → V → Hp → Prop} {tt : TT} {vs : List Nat} (Rep : Hp → V → β → Prop) (up : ∀ B B' v b, Same B B' → Rep B v b → Rep B' v b) (w : Walk J n G Y) (S : Sy e B H L) (hn : n ≤ 100000) (spec : Nat → Option β)
    (hG : ∀ B1 H1 D acc, Same B B1 → Sy e B1 H1 ((D, .lst acc) :: L) → G H1)
    (hs : ∀ i x B1 H1 H1' acc D (Kp : VK) (Kn : Hp → Prop), i < n → Same B B1 → Sy e B1 H1 ((D, .lst acc) :: L) → Y i H1 x H1' → (∀ y b B4 H4, spec i = some b → Same B1 B4 → Rep B4 y b → Sy e B4 H4 ((D, .lst acc) :: L) → Kp y H4) →
      (∀ B4 H4, spec i = none → Same B1 B4 → Sy e B4 H4 ((D, .lst acc) :: L) → Kn H4) → g x (wipe σ vs) H1' fun σ2 H2 => wipe σ2 vs = wipe σ vs ∧ tt σ2 H2 fun b H3 => if b = true then te σ2 H3 Kp else Kn H3)
    (hd : ∀ B1 H1 acc D, Same B B1 → e.H D = none → Paired (Rep B1) acc ((List.range n).filterMap spec) → Sy e B1 H1 ((D, .lst acc) :: L) → Q (.ref D) H1) : LcG J g tt te vs σ Q H := by
  have hsnoc : ∀ i, (List.range (i + 1)).filterMap spec = (List.range i).filterMap spec ++ (spec i).toList := fun i => by
    rw [List.range_succ, List.filterMap_append]
    cases q : spec i <;> simp [q]
  refine y_lcG w S (fun i B1 acc L1 => L1 = L ∧ i ≤ n ∧ acc.length ≤ i ∧ Paired (Rep B1) acc ((List.range i).filterMap spec)) ⟨rfl, Nat.zero_le _, Nat.le_refl _, .nil⟩ ?_ ?_ ?_
  · rintro i B1 H1 acc L1 D ⟨rfl, _, _, _⟩ b1 S1
    exact hG B1 H1 D acc b1 S1
  · rintro i x B1 H1 H1' acc L1 D Kp Kn hi ⟨rfl, _, hl, hp⟩ b1 hD S1 hy kp kn
    refine hs i x B1 H1 H1' acc D Kp Kn hi b1 S1 hy (fun y b B4 H4 e1 b4 r S4 => ?_) (fun B4 H4 e1 b4 S4 => ?_)
    · refine kp y H4 ⟨B4, acc, L1, S4, b1.trans b4, Nat.lt_of_le_of_lt (Nat.le_trans hl (Nat.le_of_lt (Nat.lt_of_lt_of_le hi hn))) (by rw [sizeLine_eq]; decide), rfl, hi, by simp; omega, ?_⟩
      rw [hsnoc, e1]
      exact Paired.snoc (pr_up up b4 hp) r
    · refine kn H4 ⟨B4, acc, L1, S4, b1.trans b4, rfl, hi, by omega, ?_⟩
      rw [hsnoc, e1]
      simpa using pr_up up b4 hp
  · rintro B1 H1 acc L1 D ⟨rfl, _, hl, hp⟩ b1 hD S1
    exact hd B1 H1 acc D b1 hD hp S1
theorem eq_up : ∀ (B B' : Hp) (v b : V), Same B B' → v = b → v = b := fun _ _ _ _ _ h => h
theorem pr_eq : ∀ {l m : List V}, Paired (fun v b => v = b) l m → l = m
  | _, _, .nil => rfl
  | _, _, .cons h t => by rw [h, pr_eq t]
theorem y_yes {QT : Bool → Hp → Prop} (h : QT true H) : tYes σ H QT := h
theorem fm_some {α β : Type} (f : α → β) : ∀ l : List α, l.filterMap (fun i => some (f i)) = l.map f
  | [] => rfl
  | a :: l => by rw [List.filterMap_cons, List.map_cons, fm_some f l]
theorem fm_if {α : Type} (p : α → Bool) : ∀ l : List α, l.filterMap (fun r => if p r = true then some r else none) = l.filter p
  | [] => rfl
  | a :: l => by
    rw [List.filterMap_cons, List.filter_cons, fm_if p l]
    by_cases h : p a = true
    · rw [if_pos h, if_pos h]
    · rw [if_neg h, if_neg h]
theorem snoc_cases {α : Type} (l : List α) : l = [] ∨ ∃ m x, l = m ++ [x] := by
  by_cases h : l = []
  · exact .inl h
  · exact .inr ⟨l.dropLast, l.getLast h, (List.dropLast_concat_getLast h).symm⟩
end
end Y
/-! Bags, rows of a chain, tables of places: how they stand in the heap. -/
namespace Y
open PySem PySem.Spec PyProof.Rows L2
theorem lenOk {n : Nat} (h : n ≤ 100000) : n ≤ sizeLine := by rw [sizeLine_eq]; omega
theorem lenLt {n : Nat} (h : n < 100000) : n < sizeLine := by rw [sizeLine_eq]; omega

/-! ### lists, pairwise -/
section
variable {α β : Type} {F G : α → β → Prop}
theorem pr_get : ∀ {l : List α} {m : List β} {i : Nat} {b : β}, Paired F l m → m[i]? = some b → ∃ a, l[i]? = some a ∧ F a b
  | _, _, _, _, .nil, e => by simp at e
  | _, _, 0, _, .cons r _, e => by simp at e; subst e; exact ⟨_, rfl, r⟩
  | _, _, i + 1, b, .cons _ t, e => by
    obtain ⟨a, h1, h2⟩ := pr_get (i := i) (b := b) t (by simpa using e)
    exact ⟨a, by simpa using h1, h2⟩
theorem pr_getL : ∀ {l : List α} {m : List β} {i : Nat} {a : α}, Paired F l m → l[i]? = some a → ∃ b, m[i]? = some b ∧ F a b
  | _, _, _, _, .nil, e => by simp at e
  | _, _, 0, _, .cons r _, e => by simp at e; subst e; exact ⟨_, rfl, r⟩
  | _, _, i + 1, a, .cons _ t, e => by
    obtain ⟨b, h1, h2⟩ := pr_getL (i := i) (a := a) t (by simpa using e)
    exact ⟨b, by simpa using h1, h2⟩
theorem pr_app : ∀ {l : List α} {m : List β} {l' : List α} {m' : List β}, Paired F l m → Paired F l' m' → Paired F (l ++ l') (m ++ m')
  | _, _, _, _, .nil, h => h
  | _, _, _, _, .cons r t, h => .cons r (pr_app t h)
end

theorem atI_of {α : Type} {xs : List α} {i : Int} {v : α} (h0 : 0 ≤ i) (h : xs[i.toNat]? = some v) : atI xs i = some v := by
  obtain ⟨n, rfl⟩ := Int.eq_ofNat_of_zero_le h0
  exact atI_nat h
/-! ### bags -/
/-- a bag: its counter may still rise n times -/
def Bag (n : Nat) (o : HO) : Prop := ∃ x y z : Int, o = .lst [.int x, .int y, .int z] ∧ 0 ≤ y ∧ y < 2 ^ 200 ∧ 0 ≤ z ∧ z + n ≤ 2 ^ 100
theorem Bag.mono {n m : Nat} {o : HO} (h : Bag n o) (l : m ≤ n) : Bag m o := by
  obtain ⟨x, y, z, h1, h2, h3, h4, h5⟩ := h
  exact ⟨x, y, z, h1, h2, h3, h4, by omega⟩
def φ_draw : Ph := fun B vs L k => ∃ b o many n, vs = [.ref b, .int many] ∧ L = [(b, o)] ∧ Bag (n + 1) o ∧ 0 < many ∧ many < 2 ^ 100 ∧ ∀ i o', 0 ≤ i → i < many → Bag n o' → k B (.int i) [(b, o')]
theorem y_draw {e : En} {B H : Hp} {R : Led} {b : Addr} {o : HO} {n : Nat} {many : Int} {Q : VK} {E : XK} (S : Sy e B H ((b, o) :: R)) (hb : Bag (n + 1) o) (h0 : 0 < many) (h1 : many < 2 ^ 100)
    (k : ∀ i o' H', 0 ≤ i → i < many → Bag n o' → Sy e B H' ((b, o') :: R) → Q (.int i) H') : spY φ_draw [.ref b, .int many] H Q E :=
  y_sp1 S ⟨b, o, many, n, rfl, rfl, hb, h0, h1, fun i o' a1 a2 a3 H' T => k i o' H' a1 a2 a3 (S.back1 T)⟩
def φ_cell (K : PySem.W.Frag) : Ph := fun B vs L k => ∃ (a : Addr) (ns : List Int) (i : Int), vs = [.ref a, .int i] ∧ L = [] ∧ SqL K B a (ns.map V.int) ∧ 0 ≤ i ∧ ∀ c, k B (.int c) []
def φ_bag : Ph := fun B vs L k => ∃ (c p : Int), vs = [.int c, .int p] ∧ L = [] ∧ 0 ≤ p ∧ p ≤ 1000 ∧ ∀ b o, Bag 1000000 o → k B (.ref b) [(b, o)]

section
variable {K : PySem.W.Frag} {e : En} {B H : Hp} {L : Led} {Q : VK} {E : XK} {a : Addr}
theorem y_cell {ns : List Int} {i : Int} (S : Sy e B H L) (hq : SqL K B a (ns.map V.int)) (h0 : 0 ≤ i) (k : ∀ c H', Sy e B H' L → Q (.int c) H') : spY (φ_cell K) [.ref a, .int i] H Q E :=
  y_sp0 S ⟨a, ns, i, rfl, rfl, hq, h0, fun c H' T => k c H' (S.back0 T)⟩
theorem y_bag {c p : Int} (S : Sy e B H L) (h0 : 0 ≤ p) (h1 : p ≤ 1000) (k : ∀ b o H', e.H b = none → Bag 1000000 o → Sy e B H' ((b, o) :: L) → Q (.ref b) H') : spY φ_bag [.int c, .int p] H Q E :=
  y_sp0 S ⟨c, p, rfl, rfl, h0, h1, fun b o hb H' T => k b o H' (S.backN0 T).1 hb (S.backN0 T).2⟩
end

/-! ### rows -/
/-- a version: its number, its dealing, its worth -/
abbrev Ver := Int × Int × Option Int
def wV : Option Int → V
  | none => .non
  | some i => .int i
def rowV (r : Ver) : List V := [.int r.1, .int r.2.1, wV r.2.2]
def RowAt (K : PySem.W.Frag) (B : Hp) (v : V) (r : Ver) : Prop := ∃ a, v = .ref a ∧ SqT K B a (rowV r)
abbrev RowsAt (K : PySem.W.Frag) (B : Hp) (vs : List V) (rs : List Ver) : Prop := Paired (RowAt K B) vs rs
section
variable {K : PySem.W.Frag} {B B' : Hp} {v : V} {vs : List V} {r : Ver} {rs : List Ver}
theorem RowAt.up (s : Same B B') (h : RowAt K B v r) : RowAt K B' v r := by
  obtain ⟨a, h1, h2⟩ := h
  exact ⟨a, h1, up_t s h2⟩
theorem RowsAt.up (s : Same B B') (h : RowsAt K B vs rs) : RowsAt K B' vs rs := Paired.mapP h fun _ _ q => RowAt.up s q
def wD : Option Int → PyData
  | none => .none
  | some i => .int i
def rowD (r : Ver) : PyData := .tuple [.int r.1, .int r.2.1, wD r.2.2]
theorem dp_w (w : Option Int) {H : Hp} : Dp K H (wV w) (wD w) := by cases w <;> constructor
theorem RowAt.dp (h : RowAt K B v r) : Dp K B v (rowD r) := by
  obtain ⟨a, rfl, h2⟩ := h
  exact .tup h2 (.cons (.int _) (.cons (.int _) (.cons (dp_w _) .nil)))
theorem RowsAt.dps : ∀ {vs : List V} {rs : List Ver}, RowsAt K B vs rs → DpAll K B vs (rs.map rowD)
  | _, _, .nil => .nil
  | _, _, .cons r t => .cons (RowAt.dp r) (RowsAt.dps t)
end

/-! ### tables of places -/
abbrev Tab := List (Int × Int)
def enc (p : Int × Int) : Key × V := (.inl p.1, .int p.2)
def look (t : Tab) (k : Int) : Option Int := (t.find? fun p => decide (p.1 = k)).map (·.2)
theorem look_nil {k : Int} : look [] k = none := rfl
theorem look_cons {p : Int × Int} {t : Tab} {k : Int} : look (p :: t) k = if p.1 = k then some p.2 else look t k := by
  unfold look
  rw [List.find?_cons]
  by_cases h : p.1 = k
  · simp [h]
  · simp [h]
theorem valV_enc (k : Int) : ∀ t : Tab, valV (t.map enc) (.inl k) = (look t k).map V.int
  | [] => rfl
  | p :: t => by
    rw [List.map_cons, look_cons]
    by_cases h : p.1 = k
    · rw [valV_pos (show (enc p).1 = .inl k by unfold enc; rw [h]), if_pos h]; rfl
    · rw [valV_neg (show ¬ (enc p).1 = .inl k from fun z => h (Sum.inl.inj z)), if_neg h]
      exact valV_enc k t
theorem look_none {k : Int} : ∀ {t : Tab}, look t k = none ↔ k ∉ t.map (·.1)
  | [] => by simp [look]
  | p :: t => by
    rw [look_cons, List.map_cons, List.mem_cons]
    by_cases h : p.1 = k
    · rw [if_pos h]; simp [h]
    · rw [if_neg h, look_none (t := t)]
      constructor
      · rintro q (z | z)
        · exact h z.symm
        · exact q z
      · exact fun q z => q (.inr z)
theorem put_enc {t : Tab} {k v : Int} (h : k ∉ t.map (·.1)) : putK (t.map enc) (.inl k) (.int v) = (t ++ [(k, v)]).map enc := by
  rw [putK_new _ (by rw [valV_enc, look_none.mpr h]; rfl), List.map_append]
  rfl
theorem look_mem {k v : Int} : ∀ {t : Tab}, look t k = some v → (k, v) ∈ t
  | [], h => by simp [look] at h
  | p :: t, h => by
    rw [look_cons] at h
    by_cases e : p.1 = k
    · rw [if_pos e] at h
      cases h
      rw [← e]
      exact List.mem_cons_self
    · rw [if_neg e] at h
      exact List.mem_cons_of_mem _ (look_mem h)
theorem mem_look {k v : Int} : ∀ {t : Tab}, (t.map (·.1)).Nodup → (k, v) ∈ t → look t k = some v
  | [], _, h => by cases h
  | p :: t, nd, h => by
    rw [List.map_cons] at nd
    obtain ⟨h1, h2⟩ := List.nodup_cons.mp nd
    rw [look_cons]
    rcases List.mem_cons.mp h with rfl | h
    · rw [if_pos rfl]
    · have e : ¬ p.1 = k := fun z => h1 (by rw [z]; exact List.mem_map.mpr ⟨(k, v), h, rfl⟩)
      rw [if_neg e]
      exact mem_look h2 h
/-- keys unlike, from 1 to m; places unlike, from 1 to n -/
structure TabOk (m n : Int) (t : Tab) : Prop where
  nk : (t.map (·.1)).Nodup
  nv : (t.map (·.2)).Nodup
  kb : ∀ p ∈ t, 1 ≤ p.1 ∧ p.1 ≤ m
  vb : ∀ p ∈ t, 1 ≤ p.2 ∧ p.2 ≤ n
theorem TabOk.nil {m n : Int} : TabOk m n [] := ⟨by simp, by simp, fun p h => (by cases h), fun p h => (by cases h)⟩
theorem TabOk.snoc {m n n' k v : Int} {t : Tab} (h : TabOk m n t) (h1 : k ∉ t.map (·.1)) (h2 : 1 ≤ k) (h3 : k ≤ m) (h4 : n < v) (h5 : v ≤ n') (h0 : 0 ≤ n) : TabOk m n' (t ++ [(k, v)]) := by
  refine ⟨?_, ?_, fun p hp => ?_, fun p hp => ?_⟩
  · rw [List.map_append]
    refine List.nodup_append.mpr ⟨h.nk, by simp, fun a ha b hb hab => ?_⟩
    have : b = k := by simpa using hb
    subst this hab
    exact h1 ha
  · rw [List.map_append]
    refine List.nodup_append.mpr ⟨h.nv, by simp, fun a ha b hb hab => ?_⟩
    have : b = v := by simpa using hb
    subst this hab
    obtain ⟨p, hp, e⟩ := List.mem_map.mp ha
    have := (h.vb p hp).2
    rw [show p.2 = a from e] at this
    omega
  · rcases List.mem_append.mp hp with hp | hp
    · exact h.kb p hp
    · have : p = (k, v) := by simpa using hp
      subst this
      exact ⟨h2, h3⟩
  · rcases List.mem_append.mp hp with hp | hp
    · have := h.vb p hp
      exact ⟨this.1, by omega⟩
    · have : p = (k, v) := by simpa using hp
      subst this
      exact ⟨by show 1 ≤ v; omega, h5⟩
/-- a chain as drawn: numbers rising, from 1 on, dealings from 1 to m -/
structure ChOk (m last : Int) (rs : List Ver) : Prop where
  up : (rs.map (·.1)).Pairwise (· < ·)
  nb : ∀ r ∈ rs, 1 ≤ r.1 ∧ r.1 ≤ last
  db : ∀ r ∈ rs, 1 ≤ r.2.1 ∧ r.2.1 ≤ m
theorem ChOk.nil {m last : Int} : ChOk m last [] := ⟨by simp, fun r h => (by cases h), fun r h => (by cases h)⟩
theorem ChOk.snoc {m l l' : Int} {rs : List Ver} {r : Ver} (h : ChOk m l rs) (h1 : l < r.1) (h2 : r.1 ≤ l') (h3 : 1 ≤ r.2.1) (h4 : r.2.1 ≤ m) (h0 : 0 ≤ l) : ChOk m l' (rs ++ [r]) := by
  refine ⟨?_, fun q hq => ?_, fun q hq => ?_⟩
  · rw [List.map_append, List.pairwise_append]
    refine ⟨h.up, by simp, fun a ha b hb => ?_⟩
    obtain ⟨q, hq, e⟩ := List.mem_map.mp ha
    have e2 : b = r.1 := by simpa using hb
    have := (h.nb q hq).2
    rw [show q.1 = a from e] at this
    omega
  · rcases List.mem_append.mp hq with hq | hq
    · have := h.nb q hq
      exact ⟨this.1, by omega⟩
    · have : q = r := by simpa using hq
      subst this
      exact ⟨by omega, h2⟩
  · rcases List.mem_append.mp hq with hq | hq
    · exact h.db q hq
    · have : q = r := by simpa using hq
      subst this
      exact ⟨h3, h4⟩
theorem nodup_erase {α : Type} : ∀ {l : List α} {j : Nat} {x : α}, l.Nodup → l[j]? = some x → (l.eraseIdx j).Nodup ∧ x ∉ l.eraseIdx j ∧ ∀ y ∈ l.eraseIdx j, y ∈ l
  | [], _, _, _, h => by simp at h
  | a :: l, 0, x, nd, h => by
    simp at h
    subst h
    obtain ⟨h1, h2⟩ := List.nodup_cons.mp nd
    exact ⟨h2, h1, fun y hy => List.mem_cons_of_mem _ hy⟩
  | a :: l, j + 1, x, nd, h => by
    obtain ⟨h1, h2⟩ := List.nodup_cons.mp nd
    obtain ⟨q1, q2, q3⟩ := nodup_erase (j := j) (x := x) h2 (by simpa using h)
    rw [List.eraseIdx_cons_succ]
    refine ⟨List.nodup_cons.mpr ⟨fun z => h1 (q3 _ z), q1⟩, fun z => ?_, fun y hy => ?_⟩
    · rcases List.mem_cons.mp z with z | z
      · subst z
        exact h1 (List.mem_of_getElem? (show l[j]? = some x by simpa using h))
      · exact q2 z
    · rcases List.mem_cons.mp hy with rfl | hy
      · exact List.mem_cons_self
      · exact List.mem_cons_of_mem _ (q3 y hy)
theorem map_erase {α β : Type} (f : α → β) : ∀ (l : List α) (j : Nat), (l.map f).eraseIdx j = (l.eraseIdx j).map f
  | [], _ => rfl
  | _ :: _, 0 => rfl
  | a :: l, j + 1 => by rw [List.map_cons, List.eraseIdx_cons_succ, List.eraseIdx_cons_succ, List.map_cons, map_erase f l j]
end Y
/-! dict(..), sorted(..), locks, calls by names alone. -/
namespace Y
open PySem PySem.Spec PyProof.Rows L2
section
variable {X : Cx} {K : PySem.W.Frag} {σ : L2.St} {e : En} {B H : Hp} {L : Led} {Q : VK} {te : TE} {v x y : V} {xs ys : List V} {a b d p : Addr} {o : HO}

/-! ### dict(ps), dict(d) -/
def rDictP (K : PySem.W.Frag) : List V → Hp → VK → Prop := fun xs H Q => ∃ (a : Addr) (ps : List Addr) (kvs : List (Key × V)), xs = [.ref a] ∧ SqL K H a (ps.map V.ref) ∧ Paired (fun p kv => SqT K H p [kV kv.1, kv.2]) ps kvs ∧ NewK (.dK (mergeK [] kvs)) Q H
def rDictD : List V → Hp → VK → Prop := fun xs H Q => ∃ (a : Addr) (kvs : List (Key × V)), xs = [.ref a] ∧ Rd H a (.dK kvs) ∧ NewK (.dK kvs) Q H
def rDictU (K : PySem.W.Frag) : List V → Hp → VK → Prop := fun xs H Q => rDictP K xs H Q ∨ rDictD xs H Q
theorem call_dictU (hK : X.K = K) (hc : X.calm = true) : CallR X (.type "dict") (rDictU K) := hK ▸ CallR.or (r := rDictP X.K) (r' := rDictD) (call_dictP hc) call_dictD
theorem y_dictD {kvs : List (Key × V)} (h : Rd H a (.dK kvs)) (q : NewK (.dK kvs) Q H) : rDictU K [.ref a] H Q := .inr ⟨a, kvs, rfl, h, q⟩
/-- a pair of ints -/
def PairAt (B : Hp) (v : V) (p : Int × Int) : Prop := ∃ t, v = .ref t ∧ B t = some (.tup [.int p.1, .int p.2])
theorem PairAt.up (B B' : Hp) (v : V) (p : Int × Int) (s : Same B B') (h : PairAt B v p) : PairAt B' v p := by
  obtain ⟨t, h1, h2⟩ := h
  exact ⟨t, h1, s t _ h2⟩
theorem merge_enc : ∀ (t t0 : Tab), ((t0 ++ t).map (·.1)).Nodup → mergeK (t0.map enc) (t.map enc) = (t0 ++ t).map enc
  | [], t0, _ => by rw [List.append_nil]; rfl
  | p :: t, t0, h => by
    have h1 : p.1 ∉ t0.map (·.1) := fun z => by
      rw [List.map_append, List.map_cons] at h
      exact (List.nodup_append.mp h).2.2 _ z _ List.mem_cons_self rfl
    have e1 : t0 ++ p :: t = (t0 ++ [p]) ++ t := by simp
    have ih := merge_enc t (t0 ++ [p]) (by rw [← e1]; exact h)
    show mergeK (putK (t0.map enc) (.inl p.1) (.int p.2)) (t.map enc) = _
    rw [put_enc h1, ih, e1]
/-- dict(ps) of pairs of ints with unlike first ones -/
theorem y_dictP (S : Sy e B H L) {t : Tab} (h : SqL K H a xs) (hp : Paired (PairAt B) xs t) (nd : (t.map (·.1)).Nodup) (q : NewK (.dK (t.map enc)) Q H) : rDictU K [.ref a] H Q := by
  have key : ∀ {xs : List V} {t : Tab}, Paired (PairAt B) xs t → ∃ ps : List Addr, xs = ps.map V.ref ∧ Paired (fun p kv => SqT K H p [kV kv.1, kv.2]) ps (t.map enc) := by
    intro xs t hp
    induction hp with
    | nil => exact ⟨[], rfl, .nil⟩
    | cons r _ ih =>
      obtain ⟨ps, e1, e2⟩ := ih
      obtain ⟨t, rfl, h2⟩ := r
      exact ⟨t :: ps, by rw [e1]; rfl, .cons (sqT (S.tup h2)) e2⟩
  obtain ⟨ps, rfl, h2⟩ := key hp
  refine .inl ⟨a, ps, t.map enc, rfl, h, h2, ?_⟩
  rw [show mergeK [] (t.map enc) = t.map enc from merge_enc t [] (by simpa using nd)]
  exact q

theorem snoc_ind {α : Type} {P : List α → Prop} (h0 : P []) (hs : ∀ l a, P l → P (l ++ [a])) (l : List α) : P l := by
  have all : ∀ m : List α, P m.reverse := fun m => by
    induction m with
    | nil => exact h0
    | cons a m ih => rw [List.reverse_cons]; exact hs _ _ ih
  rw [← List.reverse_reverse l]
  exact all _
theorem pr_snoc {α β : Type} {F : α → β → Prop} : ∀ {l : List α} {m : List β} {b : β}, Paired F l (m ++ [b]) → ∃ l' a, l = l' ++ [a] ∧ F a b
  | _, [], _, .cons r .nil => ⟨[], _, rfl, r⟩
  | _, _ :: m, b, .cons r h => by
    obtain ⟨l', a, e1, e2⟩ := pr_snoc (m := m) h
    exact ⟨_ :: l', a, by rw [e1]; rfl, e2⟩
/-! ### a table of places -/
theorem y_inTab (S : Sy e B H L) {t : Tab} {k : Int} (h : B d = some (.dK (t.map enc))) (q : Q (.bl (look t k).isSome) H) : rInU K (.int k) (.ref d) H Q :=
  y_inD (k := .inl k) (S.rd h) rfl (by rw [valV_enc, Option.isSome_map]; exact q)
theorem y_notInTab (S : Sy e B H L) {t : Tab} {k : Int} (h : B d = some (.dK (t.map enc))) (q : Q (.bl (!(look t k).isSome)) H) : rNotInU K (.int k) (.ref d) H Q :=
  y_notInD (k := .inl k) (S.rd h) rfl (by rw [valV_enc, Option.isSome_map]; exact q)
theorem y_ixTab (S : Sy e B H L) {t : Tab} {k z : Int} (h : B d = some (.dK (t.map enc))) (hz : look t k = some z) (q : Q (.int z) H) : rIxU K (.ref d) (.int k) H Q :=
  y_ixD (k := .inl k) (S.rd h) rfl (by rw [valV_enc, hz]; rfl) q
theorem y_inTabL {t : Tab} {k : Int} (h : Rd H d (.dK (t.map enc))) (q : Q (.bl (look t k).isSome) H) : rInU K (.int k) (.ref d) H Q :=
  y_inD (k := .inl k) h rfl (by rw [valV_enc, Option.isSome_map]; exact q)
theorem y_ixTabL {t : Tab} {k z : Int} (h : Rd H d (.dK (t.map enc))) (hz : look t k = some z) (q : Q (.int z) H) : rIxU K (.ref d) (.int k) H Q :=
  y_ixD (k := .inl k) h rfl (by rw [valV_enc, hz]; rfl) q

/-! ### sorted -/
def rSortU (K : PySem.W.Frag) : List V → Hp → VK → Prop := fun xs H Q => rSortedI K xs H Q ∨ rSortedPO K xs H Q
theorem call_sortedU (hK : X.K = K) : CallR X (.builtin "sorted") (rSortU K) := hK ▸ CallR.or cr_sortedI cr_sortedPO
theorem y_sortedI {ns : List Int} (h : SqL K H a (ns.map V.int)) (q : ∀ ns' : List Int, ns'.Perm ns → ns'.Pairwise (· ≤ ·) → NewK (.lst (ns'.map V.int)) Q H) : rSortU K [.ref a] H Q := .inl ⟨a, ns, rfl, h, fun ns' p h1 h2 hp => q ns' h1 h2 p hp⟩
/-- by the first, then by the second -/
def LexLe (p q : Int × Int) : Prop := p.1 < q.1 ∨ (p.1 = q.1 ∧ p.2 ≤ q.2)
def pairOf (H : Hp) (x : V) : Int × Int := match x with
  | .ref t => (match H t with
    | some (.tup [.int i, .int j]) => (i, j)
    | _ => (0, 0))
  | _ => (0, 0)
theorem pairOf_eq {t : Addr} {i j : Int} (h : H t = some (.tup [.int i, .int j])) : pairOf H (.ref t) = (i, j) := by
  simp only [pairOf, h]
theorem pairs_of {B H : Hp} (sb : Sub B H) : ∀ {xs : List V} {ps : List (Int × Int)}, Paired (PairAt B) xs ps → ps = xs.map (pairOf H) ∧ (∀ x ∈ xs, ∃ t, x = V.ref t ∧ B t = some (.tup [.int (pairOf H x).1, .int (pairOf H x).2]))
  | _, _, .nil => ⟨rfl, fun x h => by cases h⟩
  | _, _, .cons (b := p) r h => by
    obtain ⟨t, rfl, h2⟩ := r
    obtain ⟨e1, e2⟩ := pairs_of sb h
    have e3 : pairOf H (.ref t) = p := pairOf_eq (sb.tup h2)
    refine ⟨by rw [List.map_cons, e3, e1], fun x hx => ?_⟩
    rcases List.mem_cons.mp hx with rfl | hx
    · exact ⟨t, rfl, by rw [e3]; exact h2⟩
    · exact e2 x hx
theorem paired_map {α β : Type} {F : α → β → Prop} (f : α → β) : ∀ {l : List α}, (∀ x ∈ l, F x (f x)) → Paired F l (l.map f)
  | [], _ => .nil
  | x :: l, h => .cons (h x List.mem_cons_self) (paired_map f fun y hy => h y (List.mem_cons_of_mem _ hy))
/-- sorted(ps), ps pairs of ints -/
theorem y_sortedP (S : Sy e B H L) {ps : List (Int × Int)} (h : SqL K H a xs) (hp : Paired (PairAt B) xs ps) (q : ∀ ys qs, Paired (PairAt B) ys qs → qs.Perm ps → qs.Pairwise LexLe → ys.length = xs.length → NewK (.lst ys) Q H) : rSortU K [.ref a] H Q := by
  obtain ⟨e1, e2⟩ := pairs_of S.bh hp
  refine .inr ⟨a, xs, pairOf H, rfl, h, fun x hx => ?_, fun ys p h1 h2 hn => ?_⟩
  · obtain ⟨t, h3, h4⟩ := e2 x hx
    exact ⟨t, h3, S.tup h4⟩
  · refine q ys (ys.map (pairOf H)) (paired_map _ fun x hx => ?_) ?_ ?_ h2.perm.length_eq p hn
    · exact e2 x (h2.perm.mem_iff.mp hx)
    · rw [e1]; exact h2.perm.map _
    · rw [List.pairwise_map]
      refine List.Pairwise.imp (fun {u w} z => ?_) h1
      have z2 := SrtO.lexB_no.mp z
      unfold LexLe
      omega

/-! ### sums, all, any of made lists -/
theorem cr_sumU (hK : X.K = K) (hc : X.calm = true) : CallR X (.builtin "sum") (rSum K) := hK ▸ cr_sum hc
theorem cr_allU (hK : X.K = K) (hc : X.calm = true) : CallR X (.builtin "all") (rAll K) := hK ▸ cr_all hc
theorem cr_anyU (hK : X.K = K) (hc : X.calm = true) : CallR X (.builtin "any") (rAny K) := hK ▸ cr_any hc
theorem y_sum {ns : List Int} (h : SqL K H a (ns.map V.int)) (q : Q (.int ns.sum) H) : rSum K [.ref a] H Q := ⟨a, ns, rfl, h, q⟩
theorem y_all {bs : List Bool} (h : SqL K H a (bs.map V.bl)) (q : Q (.bl (bs.all id)) H) : rAll K [.ref a] H Q := ⟨a, bs, rfl, h, q⟩
theorem y_any {bs : List Bool} (h : SqL K H a (bs.map V.bl)) (q : Q (.bl (bs.any id)) H) : rAny K [.ref a] H Q := ⟨a, bs, rfl, h, q⟩

/-! ### alike -/
theorem al_refs {n : Nat} : ∀ {ws : List V} {rs : List Ver}, RowsAt K B ws rs → Paired (Al K H (n + 1)) ws ws
  | _, _, .nil => .nil
  | _, _, .cons ⟨a, e, _⟩ h => .cons (.inr (.inl ⟨a, e, e⟩)) (al_refs h)
theorem al_list {n : Nat} {a b : Addr} (h1 : SqL K H a xs) (h2 : SqL K H b ys) (h : Paired (Al K H n) xs ys) : Al K H (n + 1) (.ref a) (.ref b) := .inr (.inr (.inl (.inl ⟨a, b, xs, ys, rfl, rfl, h1, h2, h⟩)))
theorem al_tab {n : Nat} {a b : Addr} {t : Tab} (h1 : H a = some (.dK (t.map enc))) (h2 : H b = some (.dK (t.map enc))) (nd : (t.map (·.1)).Nodup) : Al K H (n + 2) (.ref a) (.ref b) := by
  refine .inr (.inr (.inl (.inr ⟨a, b, _, _, rfl, rfl, h1, h2, rfl, fun p hp => ?_⟩)))
  obtain ⟨q, hq, rfl⟩ := List.mem_map.mp hp
  refine ⟨.int q.2, ?_, .inl ⟨rfl, rfl⟩⟩
  show valV (t.map enc) (.inl q.1) = _
  rw [valV_enc, mem_look nd hq]
  rfl
/-! ### locks -/
/-- behind a locked expression -/
def LockK (d : Addr) (od : Obj) (u : HO) (Q : VK) : VK := fun v H' => H' d = some (.frz od u) ∧ Q v (upd H' d u)
theorem y_lockE (S : Sy e B H L) {kvs : List (Key × V)} (hB : B d = some (.dK kvs)) (hH : H d = some (.dK kvs))
    (k : ∀ od H1, H1 d = some (.frz od (.dK kvs)) → Sy { e with Z := (d, od, .dK kvs) :: e.Z } B H1 L → te σ H1 (LockK d od (.dK kvs) Q)) : tLockE te σ H Q :=
  ⟨d, .dK kvs, hH, trivial, fun od => k od _ upd_same (S.lock hB trivial hH)⟩
theorem y_lockK (S : Sy e B H L) {kvs : List (Key × V)} {B' H' : Hp} {L' : Led} {od : Obj} (hB : B d = some (.dK kvs)) (hH : H d = some (.dK kvs)) (b : Same B B') (T : Sy { e with Z := (d, od, .dK kvs) :: e.Z } B' H' L') (k : ∀ H2, Sy e B' H2 L' → Q v H2) : LockK d od (.dK kvs) Q v H' := by
  obtain ⟨h1, h2⟩ := S.unlock hB trivial hH b T
  exact ⟨h1, k _ h2⟩
/-- a dict that was laid since the entry is locked -/
theorem y_lockX (hz : e.Z = []) (S : Sy e B H L) {kvs : List (Key × V)} (hB : B d = some (.dK kvs)) (hn : e.H d = none)
    (k : ∀ od H1 e1 (Q' : VK), e1.H = e.H → H1 d = some (.frz od (.dK kvs)) → Sy e1 B H1 L → (∀ B' H' L', Sy e1 B' H' L' → H' d = some (.frz od (.dK kvs))) → (∀ v B' H' L', Same B B' → Sy e1 B' H' L' → (∀ H2, Sy e B' H2 L' → Q v H2) → Q' v H') → te σ H1 Q') : tLockE te σ H Q := by
  have hH := S.dk hB trivial hn hz
  exact y_lockE S hB hH fun od H1 h1 S1 => k od H1 { e with Z := (d, od, .dK kvs) :: e.Z } _ rfl h1 S1 (fun B' H' L' T => T.zin (d, od, .dK kvs) List.mem_cons_self) fun v B' H' L' b T q => y_lockK S hB hH b T q
end
/-! ### a call by names alone -/
section
variable {X : Cx} {k : Nat} {x : Str} {ps : List Str} {sp : Sp} {p pos : Pos} {tk : TA} {ks : List Str} {gV : List V → List V → List V} {kws : List Keyword}
theorem pe_callON0 (O : OkN X.prog X.w X.K X.mg X.base k x ps 0 ks gV sp) (hr : Room k X.A) (hg : Gl X x) (hkw : PK X kws tk) (hall : (backToKw pos (keywordEach kws X.env)).all (·.1.isSome) = true := by rfl) (hks : (backToKw pos (keywordEach kws X.env)).filterMap (·.1) = ks := by rfl)
    (hdb : (x == ("__debug__" : Str)) = false := by decide) (hpl : ((backTo pos (starEach [] X.env)).any (·.1) || (backToKw pos (keywordEach kws X.env)).any (·.1.isNone)) = false := by rfl) :
    PE X (.Call (.Name x p) [] kws pos) (tCallN 0 ks.length sp gV E0 tNil tk) := by
  obtain ⟨f, fd, g, h1, h2, h3, h4⟩ := O
  refine ⟨fun pins s σ H Q I h => ?_⟩
  refine wpAny_Call_Name_kw (ld_glob I hg h1 ?_ hdb)
  refine PySem.W.callWith_KW0 (h₀ := X.base) I.ok.mod.kin h2 hall ?_ hpl
  refine thn (hkw.run pos pins s σ H _ I h) fun ws s2 ⟨zs, H2, I2, rz, l1, l2, q2⟩ => ⟨I2.kIn, ?_⟩
  rw [hks]
  exact run_fnN h4 hr h3 pass0 I2 .nil rz l1 l2 q2
end
section
variable {σ : L2.St} {H : Hp} {Q : VK} {n m : Nat} {sp : Sp} {gV : List V → List V → List V} {E : XK} {t tk : TA} {vs zs : List V}
/-- the values of a call with names -/
def CallNK (n m : Nat) (sp : Sp) (gV : List V → List V → List V) (E : XK) (Q : VK) (vs zs : List V) (H : Hp) : Prop := vs.length = n ∧ zs.length = m ∧ sp (gV vs zs) H Q E
theorem y_callN (h : t σ H fun vs H1 => tk σ H1 fun zs H2 => CallNK n m sp gV E Q vs zs H2) : tCallN n m sp gV E t tk σ H Q := h
theorem y_callNK (h1 : vs.length = n) (h2 : zs.length = m) (h : sp (gV vs zs) H Q E) : CallNK n m sp gV E Q vs zs H := ⟨h1, h2, h⟩
end
/-! ### a version or None -/
/-- a version or None -/
def OptAt (K : PySem.W.Frag) (B : Hp) (v : V) : Option Ver → Prop
  | none => v = .non
  | some r => RowAt K B v r
theorem OptAt.up {K : PySem.W.Frag} {B B' : Hp} {v : V} {o : Option Ver} (s : Same B B') (h : OptAt K B v o) : OptAt K B' v o := by
  cases o with
  | none => exact h
  | some r => exact RowAt.up s h
def optD : Option Ver → PyData
  | none => .none
  | some r => rowD r
theorem OptAt.dp {K : PySem.W.Frag} {B : Hp} {v : V} {o : Option Ver} (h : OptAt K B v o) : ∃ dd, Dp K B v dd ∧ SeqAt.shaped dd = true ∧ PyData.eqv dd dd = true ∧ dd = optD o := by
  cases o with
  | none =>
    have h : v = .non := h
    subst h
    exact ⟨.none, .non, rfl, rfl, rfl⟩
  | some r =>
    refine ⟨rowD r, RowAt.dp h, ?_, ?_, rfl⟩
    · obtain ⟨a, b, c⟩ := r
      cases c <;> rfl
    · obtain ⟨a, b, c⟩ := r
      cases c <;> simp [rowD, wD, PyData.eqv, PyData.eqvAll]
theorem y_eqOpt {K : PySem.W.Frag} {e : En} {B H : Hp} {L : Led} {Q : VK} {v u : V} {o : Option Ver} (S : Sy e B H L) (h1 : OptAt K B v o) (h2 : OptAt K B u o) (q : Q (.bl true) H) : rEqU K v u H Q := by
  obtain ⟨d1, a1, a2, a3, a4⟩ := h1.dp
  obtain ⟨d2, b1, b2, b3, b4⟩ := h2.dp
  have e : d1 = d2 := a4.trans b4.symm
  subst e
  exact y_eqD (S.d a1) (S.d b1) a2 a2 (by rw [a3]; exact q)
theorem y_neOpt {K : PySem.W.Frag} {e : En} {B H : Hp} {L : Led} {Q : VK} {v u : V} {o : Option Ver} (S : Sy e B H L) (h1 : OptAt K B v o) (h2 : OptAt K B u o) (q : Q (.bl false) H) : rNeU K v u H Q := by
  obtain ⟨d1, a1, a2, a3, a4⟩ := h1.dp
  obtain ⟨d2, b1, b2, b3, b4⟩ := h2.dp
  have e : d1 = d2 := a4.trans b4.symm
  subst e
  exact y_neD (S.d a1) (S.d b1) a2 a2 (by rw [a3]; exact q)
/-! ### the law's own promise -/
def φ_law (K : PySem.W.Frag) : Ph := fun B vs L k => ∃ (a : Addr) (ns : List Int), vs = [.ref a] ∧ L = [] ∧ SqL K B a (ns.map V.int) ∧ ns.length ≤ 63 ∧ ∀ B', Same B B' → k B' (.bl true) []
end Y
/-! max(d.values(), default=c), the values ints. -/
namespace Y
open PySem PySem.Spec PyProof.Rows L2
/-- the best of the first j + 1 -/
theorem best_of {bt : Nat → Nat → Bool} {f : Nat → Int} (h : ∀ i j, bt i j = decide (f j < f i)) : ∀ j, PySem.argBest bt j ≤ j ∧ ∀ i, i ≤ j → f i ≤ f (PySem.argBest bt j)
  | 0 => ⟨Nat.le_refl _, fun i hi => by rw [show i = 0 by omega]; exact Int.le_refl _⟩
  | j + 1 => by
    obtain ⟨h1, h2⟩ := best_of h j
    unfold argBest
    rw [h]
    by_cases c : f (PySem.argBest bt j) < f (j + 1)
    · rw [decide_eq_true c, if_pos rfl]
      refine ⟨Nat.le_refl _, fun i hi => ?_⟩
      rcases Nat.lt_or_ge i (j + 1) with z | z
      · exact Int.le_trans (h2 i (by omega)) (Int.le_of_lt c)
      · rw [show i = j + 1 by omega]; exact Int.le_refl _
    · rw [decide_eq_false c, if_neg (by decide)]
      refine ⟨by omega, fun i hi => ?_⟩
      rcases Nat.lt_or_ge i (j + 1) with z | z
      · exact h2 i (by omega)
      · rw [show i = j + 1 by omega]; omega
section
variable {prog : Program} {w : World} {A : Around} {E : Value → Shared → Prop} {s : Shared} {Q : Value → Shared → Prop}
theorem max_view {v d : Addr} {vs : List (Key × Value)} {ep : Nat} {ns : List Int} {c : Value} (hh : A.handled = none) (hv : s.heap.IsValuesView v d) (dat : s.heap.DictAt (mixKind prog w) d vs ep)
    (val : ∀ (i : Nat) (k : Key) (u : Value), vs[i]? = some (k, u) → ∃ t, u = Value.int (ns.getD i 0) t) (hl : ns.length = vs.length)
    (q0 : ns = [] → ∀ h' tk, (∀ b o, s.heap.get? b = some o → h'.get? b = some o) → Q c { s with heap := h', toks := tk })
    (q1 : ∀ (i : Nat) (t : Tok) (h' : Heap) (tk : Nat), i < ns.length → (∀ j, j < ns.length → ns.getD j 0 ≤ ns.getD i 0) → (∀ b o, s.heap.get? b = some o → h'.get? b = some o) → Q (.int (ns.getD i 0) t) { s with heap := h', toks := tk }) :
    wpAny (model prog w) A (call (.builtin "max") [.ref v] [(Str.ofString "default", c)]) Q E s := by
  have hlt : d < s.heap.objs.size := by obtain ⟨o, es, ho, _⟩ := dat; exact Heap.lt_size ho
  refine PySem.call_max_walkD ?_
  refine wpAny_pyIter_values (d := d) (knd := mixKind prog w) hv dat ?_
  have mv : ∀ s', Moved [s.heap.objs.size] (fun a b => b = a) { s with heap := s.heap.push { cls := .type "dict_valueiterator", data := .fields #[.ref d, .int 0 0, .int vs.length 0, .int ep 0] } } s' → ∃ h' tk, s' = { s with heap := h', toks := tk } ∧ ∀ b o, s.heap.get? b = some o → h'.get? b = some o := fun s' m => by
    refine ⟨s'.heap, s'.toks, ?_, fun b o e => m.heap b o (fun hb => absurd (Heap.lt_size e) (by rw [List.mem_singleton.mp hb]; exact Nat.lt_irrefl _)) (Heap.get?_push_of_some _ e)⟩
    obtain ⟨h1, g1, d1, t1, o1⟩ := s'
    have e1 : g1 = s.gens := m.gens
    have e2 : d1 = s.drawn := m.drawn
    have e3 : o1 = s.os := m.os
    subst e1 e2 e3
    rfl
  refine ⟨_, _, _, _, _, _, _, s.heap, fun i j => decide (ns.getD j 0 < ns.getD i 0), rfl, (Walks.dictValues (A := A.in1) (knd := mixKind prog w) hh s.heap.objs.size d (Nat.ne_of_lt hlt) vs ep).toS, ?_, ?_, ?_, ?_, ?_, ?_⟩
  · exact ⟨⟨_, Heap.get?_push_size _ rfl, rfl, rfl⟩, dat.at' fun o e => Heap.get?_push_of_some _ e⟩
  · intro b hb
    show b < (s.heap.push _).objs.size
    rw [Heap.size_push]
    rcases List.mem_cons.mp hb with rfl | hb
    · exact Nat.lt_succ_self _
    · rw [List.mem_singleton.mp hb]
      exact Nat.lt_succ_of_lt hlt
  · intro b o e hb
    exact absurd (Heap.lt_size e) (by rw [List.mem_singleton.mp hb]; exact Nat.lt_irrefl _)
  · exact fun b o e => Heap.get?_push_of_some _ e
  · intro hn s' m
    obtain ⟨h', tk, rfl, hk⟩ := mv s' m
    exact q0 (List.eq_nil_of_length_eq_zero (by omega)) h' tk hk
  · intro hn
    refine ⟨fun i j vi vj s' Q' E' _ hi hj hq => ?_, fun u s' hP m => ?_⟩
    · obtain ⟨k1, e1⟩ := hi
      obtain ⟨k2, e2⟩ := hj
      obtain ⟨t1, rfl⟩ := val i k1 vi e1
      obtain ⟨t2, rfl⟩ := val j k2 vj e2
      exact gt_int hq
    · obtain ⟨h', tk, rfl, hk⟩ := mv s' m
      obtain ⟨k1, e1⟩ := hP
      obtain ⟨t1, rfl⟩ := val _ k1 u e1
      obtain ⟨b1, b2⟩ := best_of (bt := fun i j => decide (ns.getD j 0 < ns.getD i 0)) (f := fun i => ns.getD i 0) (fun _ _ => rfl) (vs.length - 1)
      exact q1 _ t1 h' tk (by omega) (fun j hj => b2 j (by omega)) hk
end
section
variable {X : Cx}
/-- the greatest of a dict's values, or c -/
def tMaxV (c : Int) (td : TE) : TE := fun σ H Q => td σ H fun x H1 => ∃ (d : Addr) (kvs : List (Key × V)) (ns : List Int), x = .ref d ∧ Rd H1 d (.dK kvs) ∧ kvs.map (·.2) = ns.map V.int ∧ (ns = [] → Q (.int c) H1) ∧ ∀ m ∈ ns, (∀ z ∈ ns, z ≤ m) → Q (.int m) H1
theorem pe_max_values {e : Expr} {td : TE} {p apos cpos kpos pos kp2 : Pos} {c : Int} {j : Nat} (hg : Gl X "max") (hc : X.calm = true) (hm : X.mg "max" = none) (he : PE X e td)
    (hbase : attributeBase e "values" X.env (eval e X.env) = eval e X.env := by rfl) (hline : (apos.endLine == cpos.line) = true := by rfl) (hu : X.A.units + 64 < cLine)
    (hst : backTo pos (starEach [.Call (.Attribute e "values" apos) [] [] cpos] X.env) = (false, eval (.Call (.Attribute e "values" apos) [] [] cpos) X.env) :: backTo pos (starEach [] X.env) := by rfl) :
    PE X (.Call (.Name "max" p) [.Call (.Attribute e "values" apos) [] [] cpos] [⟨some "default", .Constant (.int c) j kp2, kpos⟩] pos) (tMaxV c td) := by
  refine ⟨fun pins s σ H Q I h => ?_⟩
  refine wpAny_Call_Name_kw (ld_blt I hg hm (by decide +kernel : bootBuiltins "max" = some (.builtin "max")) ?_)
  refine PyProof.Rows.callWith_kw ?_ hst
  rw [hst]
  refine Calls.spliced_cons ?_
  refine wpAny_Call_method (T := "dict") (id := "dict.values") hbase rfl hline F.plainAttrs_dict F.slot_dict_values F.type_dict_values (thn (he.run pins s σ H _ I h) fun u s1 ⟨x, H1, I1, rx, d, kvs, ns, ex, hd, hv, q0, q1⟩ => ?_)
  subst ex
  obtain rfl : u = Value.ref d := rx
  obtain ⟨hz, hsys, vs, kv, dd⟩ := dk_rd I1.hok hd
  have hl : kvs.length = vs.length := Paired.length kv
  refine ⟨dd.typeIs, dd.mapOf.noDict, ?_⟩
  obtain ⟨o, es, ep, ho, hx, hdat, hk, hpr, hnd⟩ := id dd
  have dat : s1.heap.DictAt (mixKind X.prog X.w) d vs ep := ⟨o, es, ho, hx, hdat, hk, hpr, hnd⟩
  show wpAny _ _ (callWith cpos (.builtin "dict.values") [.ref d] [] []) _ X.xe s1
  refine method_meetsIn F.slot_dict_values F.entry_dict_values rfl (PySem.evalArgs_none ⟨rfl, dd.typeIs, F.args_dict_values_1 _, _, meets_dict_values (mixKind X.prog X.w) d hsys, ⟨vs, dd⟩, ?_⟩)
  refine Calls.spliced_nil ?_
  show wpAny _ _ (evalAll [do let v ← eval (.Constant (.int c) j kp2) X.env; standAt pos; pure v]) _ _ _
  refine wpAny_evalAll_cons (wpAny_bind (wpAny_Constant_int (wpAny_bind (wpAny_standAt (wpAny_pure (wpAny_evalAll_nil ?_))))))
  have val : ∀ (i : Nat) (k : Key) (v : Value), vs[i]? = some (k, v) → ∃ t, v = Value.int (ns.getD i 0) t ∧ i < ns.length := fun i k v e1 => by
    obtain ⟨a, e2, e3, e4⟩ := pr_get kv e1
    have e5 : (kvs.map (·.2))[i]? = some a.2 := by rw [List.getElem?_map, e2]; rfl
    rw [hv, List.getElem?_map] at e5
    obtain ⟨m, e6, e7⟩ := Option.map_eq_some_iff.mp e5
    rw [← e7] at e4
    obtain ⟨t, ht⟩ := e4
    exact ⟨t, by rw [List.getD_eq_getElem?_getD, e6]; exact ht, (List.getElem?_eq_some_iff.mp e6).1⟩
  have hlen : ns.length = vs.length := by
    have := congrArg List.length hv
    rw [List.length_map, List.length_map] at this
    omega
  refine max_view (ns := ns) (I1.ok.hd hc) (v := s1.heap.objs.size) ⟨_, Heap.get?_push_size _ rfl, rfl, rfl⟩ (dat.at' fun o e => Heap.get?_push_of_some _ e) (fun i k u e1 => (val i k u e1).imp fun _ h => h.1) hlen (fun z h' tk hk => ?_) (fun i t h' tk hi hb hk => ?_)
  · exact ⟨.int c, H1, I1.kept fun b o e => hk b o (Heap.get?_push_of_some _ e), ⟨_, rfl⟩, q0 z⟩
  · refine ⟨.int (ns.getD i 0), H1, I1.kept fun b o e => hk b o (Heap.get?_push_of_some _ e), ⟨_, rfl⟩, q1 _ ?_ fun z hz => ?_⟩
    · rw [List.getD_eq_getElem?_getD, List.getElem?_eq_getElem hi]
      exact List.getElem_mem hi
    · obtain ⟨j, hj, e⟩ := List.getElem_of_mem hz
      have := hb j hj
      rw [List.getD_eq_getElem?_getD, List.getElem?_eq_getElem hj] at this
      rw [← e]
      exact this
def MaxK (c : Int) (Q : VK) : VK := fun x H1 => ∃ (d : Addr) (kvs : List (Key × V)) (ns : List Int), x = .ref d ∧ Rd H1 d (.dK kvs) ∧ kvs.map (·.2) = ns.map V.int ∧ (ns = [] → Q (.int c) H1) ∧ ∀ m ∈ ns, (∀ z ∈ ns, z ≤ m) → Q (.int m) H1
theorem y_maxV {c : Int} {td : TE} {σ : L2.St} {H : Hp} {Q : VK} (h : td σ H (MaxK c Q)) : tMaxV c td σ H Q := h
theorem y_maxK {c : Int} {H : Hp} {Q : VK} {d : Addr} {t : Tab} (h : Rd H d (.dK (t.map enc))) (k : ∀ m, (m = c ∨ ∃ p ∈ t, p.2 = m) → Q (.int m) H) : MaxK c Q (.ref d) H := by
  refine ⟨d, _, t.map (·.2), rfl, h, by rw [List.map_map, List.map_map]; rfl, fun _ => k c (.inl rfl), fun m hm _ => k m (.inr ?_)⟩
  obtain ⟨p, hp, e⟩ := List.mem_map.mp hm
  exact ⟨p, hp, e⟩
end
end Y
namespace Y
open PySem PySem.Spec PyProof.Rows L2
section
variable {X : Cx} {K : PySem.W.Frag} {σ : L2.St} {e : En} {B H : Hp} {L : Led} {Q : VK} {ta : TA} {x y : V} {a b : Addr} {xs ys : List V} {R : It → Hp → Prop}
/-! int(..), isinstance(..), ranges with a step, lists of ints -/
def rIntU : List V → Hp → VK → Prop := fun xs H Q => (∃ i, xs = [.int i] ∧ Q (.int i) H) ∨ ∃ k, xs = [.bl k] ∧ Q (.int (if k then 1 else 0)) H
theorem call_intU : CallR X (.type "int") rIntU := call_int1
theorem y_intI {i : Int} (q : Q (.int i) H) : rIntU [.int i] H Q := .inl ⟨i, rfl, q⟩
theorem y_intB {c : Bool} (q : Q (.int (if c then 1 else 0)) H) : rIntU [.bl c] H Q := .inr ⟨c, rfl, q⟩
theorem call_isiU (hK : X.K = K) : CallR X (.builtin "isinstance") (rIsi K) := hK ▸ call_isi
theorem y_isiL (h : H a = some (.lst xs)) (q : Q (.bl true) H) : rIsi K [.ref a, .ty "list"] H Q := ⟨.ref a, .ty "list", _, _, true, rfl, .ty "list", .base (.lst h), by rfl, q⟩
def RngK3 (R : It → Hp → Prop) : List V → Hp → Prop := fun vs H1 => ∃ (i j c : Int) (n : Nat), vs = [.int i, .int j, .int c] ∧ RgC i j c n ∧ R (Itc i c n) H1
theorem y_irng3 (h : ta σ H (RngK3 R)) : iRng3 ta σ H R := h
theorem y_rngK3 {i j c : Int} {n : Nat} (h : RgC i j c n) (q : R (Itc i c n) H) : RngK3 R [.int i, .int j, .int c] H := ⟨i, j, c, n, rfl, h, q⟩
theorem RgC.two {i j : Int} (ha : -(2 ^ 30) ≤ i) (ha' : i < 2 ^ 30) (hb : -(2 ^ 30) ≤ j) (hb' : j < 2 ^ 30) : RgC i j (-2) ((i - j + 1) / 2).toNat := by
  have e : Builtin.Range.rangeSize i j (-2) = (((i - j + 1) / 2).toNat : Int) := by
    unfold Builtin.Range.rangeSize
    simp only [show ¬ ((-2 : Int) > 0) by decide, if_false, show (-(-2) : Int) = 2 from rfl]
    split <;> omega
  refine ⟨by decide, by decide, ?_, e⟩
  unfold Builtin.Range.small
  rw [e]
  simp only [Builtin.Range.rangeFitsLong, Bool.and_eq_true, Bool.or_eq_true, decide_eq_true_eq, beq_iff_eq, show ¬ ((-2 : Int) > 0) by decide, if_false]
  omega
theorem cut_init (xs : List V) : cutV xs none (some (-1)) = xs.dropLast := by
  unfold cutV
  rw [List.dropLast_eq_take]
  have e1 : HT.sIx xs.length 0 none = 0 := rfl
  have e2 : HT.sIx xs.length xs.length (some (-1)) = xs.length - 1 := by
    unfold HT.sIx
    simp
    omega
  rw [e1, e2]
  simp
theorem cut_last (xs : List V) : cutV xs (some (-1)) none = xs.drop (xs.length - 1) := by
  unfold cutV
  have e1 : HT.sIx xs.length 0 (some (-1)) = xs.length - 1 := by
    unfold HT.sIx
    simp
    omega
  have e2 : HT.sIx xs.length xs.length none = xs.length := rfl
  rw [e1, e2]
  apply List.take_of_length_le
  simp
/-- ints, as values -/
def IntAt (_ : Hp) (v : V) (n : Int) : Prop := v = .int n
theorem IntAt.up : ∀ (B B' : Hp) (v : V) (n : Int), Same B B' → IntAt B v n → IntAt B' v n := fun _ _ _ _ _ h => h
theorem pr_ints {B : Hp} : ∀ {l : List V} {m : List Int}, Paired (IntAt B) l m → l = m.map V.int
  | _, _, .nil => rfl
  | _, _, .cons h t => by rw [h, pr_ints t]; rfl
theorem fm_ifm {α β : Type} (p : α → Bool) (f : α → β) : ∀ l : List α, l.filterMap (fun r => if p r = true then some (f r) else none) = (l.filter p).map f
  | [] => rfl
  | a :: l => by
    rw [List.filterMap_cons, List.filter_cons, fm_ifm p f l]
    by_cases h : p a = true
    · rw [if_pos h, if_pos h]
      rfl
    · rw [if_neg h, if_neg h]
/-- the members of a list of ints -/
theorem inV_ints {k : Int} : ∀ {ns : List Int}, inV (.int k) (ns.map V.int) = decide (k ∈ ns) := by
  intro ns
  induction ns with
  | nil => rfl
  | cons n ns ih =>
    have e : inV (.int k) ((n :: ns).map V.int) = (eqV (.int n) (.int k) || inV (.int k) (ns.map V.int)) := rfl
    rw [e, ih]
    show ((n == k) || decide (k ∈ ns)) = _
    rw [Bool.eq_iff_iff]
    simp only [Bool.or_eq_true, beq_iff_eq, decide_eq_true_eq, List.mem_cons]
    constructor
    · rintro (h | h)
      · exact .inl h.symm
      · exact .inr h
    · rintro (h | h)
      · exact .inl h.symm
      · exact .inr h
theorem flat_ints : ∀ {ns : List Int}, (ns.map V.int).all flatV = true := by
  intro ns
  induction ns with
  | nil => rfl
  | cons n ns ih =>
    show (true && (ns.map V.int).all flatV) = true
    rw [ih]
    rfl
theorem y_neIN {i : Int} (q : Q (.bl true) H) : rNeU K (.int i) .non H Q := .inl ⟨rfl, q⟩
theorem y_gtup {n : Nat} {t : TGs} {N : L2.St → Hp → Prop} (h : SqT K H a xs) (hl : xs.length = n) (q : t xs σ H N) : gTup K n t (.ref a) σ H N := ⟨a, xs, rfl, h, hl, q⟩
theorem y_inI {ns : List Int} {k : Int} (h : SqL K H a (ns.map V.int)) (q : Q (.bl (decide (k ∈ ns))) H) : rInU K (.int k) (.ref a) H Q := y_inL h rfl flat_ints (by rw [inV_ints]; exact q)
theorem y_gcons {t : TG} {u : TGs} {N : L2.St → Hp → Prop} {v : V} {r : List V} (h : t v σ H fun σ' H' => u r σ' H' N) : gCons t u (v :: r) σ H N := ⟨v, r, rfl, h⟩
theorem y_gnil {N : L2.St → Hp → Prop} (h : N σ H) : gNil [] σ H N := ⟨rfl, h⟩
theorem eqv_ints : ∀ ns : List Int, PyData.eqvAll (ns.map PyData.int) (ns.map PyData.int) = true
  | [] => by simp [PyData.eqvAll]
  | n :: ns => by simp [PyData.eqvAll, PyData.eqv, eqv_ints ns]
theorem dp_ints : ∀ ns : List Int, DpAll K H (ns.map V.int) (ns.map PyData.int)
  | [] => .nil
  | n :: ns => .cons (.int n) (dp_ints ns)
/-- two lists of the same ints -/
theorem y_neInts {ns : List Int} (h1 : SqL K H a (ns.map V.int)) (h2 : SqL K H b (ns.map V.int)) (q : Q (.bl false) H) : rNeU K (.ref a) (.ref b) H Q :=
  y_neD (.lst h1 (dp_ints ns)) (.lst h2 (dp_ints ns)) (PySem.W.shaped_ints ns) (PySem.W.shaped_ints ns) (by rw [PyData.eqv, eqv_ints]; exact q)
theorem y_eqInts {ns : List Int} (h1 : SqL K H a (ns.map V.int)) (h2 : SqL K H b (ns.map V.int)) (q : Q (.bl true) H) : rEqU K (.ref a) (.ref b) H Q :=
  y_eqD (.lst h1 (dp_ints ns)) (.lst h2 (dp_ints ns)) (PySem.W.shaped_ints ns) (PySem.W.shaped_ints ns) (by rw [PyData.eqv, eqv_ints]; exact q)
theorem al_ints {n : Nat} : ∀ {ns : List Int}, Paired (Al K H (n + 1)) (ns.map V.int) (ns.map V.int)
  | [] => .nil
  | _ :: _ => .cons (.inl ⟨rfl, rfl⟩) al_ints
theorem y_ext0 {l : Addr} (S : Sy e B H ((l, .lst xs) :: L)) (hb : H b = some (.lst ys)) (hl : xs.length + ys.length ≤ sizeLine) (k : ∀ H', Sy e B H' ((l, .lst (xs ++ ys)) :: L) → Q .non H') : rExtend (.ref l) [.ref b] H Q :=
  ⟨l, b, xs, ys, rfl, rfl, S.g0, hb, hl, k _ (S.w0 _)⟩
theorem y_ext1 {l : Addr} {q : Addr × HO} (S : Sy e B H (q :: (l, .lst xs) :: L)) (hb : H b = some (.lst ys)) (hl : xs.length + ys.length ≤ sizeLine) (k : ∀ H', Sy e B H' (q :: (l, .lst (xs ++ ys)) :: L) → Q .non H') : rExtend (.ref l) [.ref b] H Q :=
  ⟨l, b, xs, ys, rfl, rfl, S.g1, hb, hl, k _ (S.w1 _)⟩
end
end Y
/-! Things of the ledger lent to a callee, to be read. -/
namespace Y
open PySem PySem.Spec PyProof.Rows L2
/-- the base with the ledger on it -/
def over (B : Hp) : Led → Hp
  | [] => B
  | p :: L => upd (over B L) p.1 p.2
/-- without the ledger's places -/
def less (B : Hp) (L : Led) : Hp := fun a => if a ∈ L.map (·.1) then none else B a
section
variable {e : En} {B B' H H' : Hp} {L N : Led} {a : Addr} {o : HO} {K : PySem.W.Frag} {Q : VK} {E : XK} {v : V} {vs xs : List V} {φ : Ph}
theorem over_out (B : Hp) : ∀ {L : Led} {a : Addr}, a ∉ L.map (·.1) → over B L a = B a
  | [], _, _ => rfl
  | p :: L, a, h => by
    rw [List.map_cons, List.mem_cons, not_or] at h
    show upd (over B L) p.1 p.2 a = _
    unfold upd
    rw [if_neg h.1]
    exact over_out B h.2
theorem over_in (B : Hp) : ∀ {L : Led} {p : Addr × HO}, (L.map (·.1)).Nodup → p ∈ L → over B L p.1 = some p.2
  | q :: L, p, nd, h => by
    rw [List.map_cons, List.nodup_cons] at nd
    show upd (over B L) q.1 q.2 p.1 = _
    rcases List.mem_cons.mp h with h1 | h1
    · subst h1
      exact upd_same
    · have hne : p.1 ≠ q.1 := fun z => nd.1 (by rw [← z]; exact List.mem_map.mpr ⟨p, h1, rfl⟩)
      unfold upd
      rw [if_neg hne]
      exact over_in B nd.2 h1
theorem less_out {B : Hp} {L : Led} {a : Addr} (h : a ∉ L.map (·.1)) : less B L a = B a := if_neg h
theorem Sy.ov (S : Sy e B H L) (h : (a, o) ∈ L) : over B L a = some o := over_in B S.nd h
theorem Sy.bout (S : Sy e B H L) (h : B a = some o) : a ∉ L.map (·.1) := fun z => by
  obtain ⟨p, hp, e1⟩ := List.mem_map.mp z
  have := (S.led p hp).2.1
  rw [show p.1 = a from e1, h] at this
  cases this
theorem Sy.toOver (S : Sy e B H L) : Same B (over B L) := fun a o h => by rw [over_out B (S.bout h)]; exact h
theorem Sy.lendHand (S : Sy e B H L) : Hand (over B L) H [] := by
  refine ⟨fun a o h => ?_, fun p hp => (by cases hp), by simp⟩
  by_cases c : a ∈ L.map (·.1)
  · obtain ⟨p, hp, e1⟩ := List.mem_map.mp c
    have h1 := over_in B S.nd hp
    rw [show p.1 = a from e1, h] at h1
    cases h1
    have := (S.led p hp).1
    rw [show p.1 = a from e1] at this
    exact .inl this
  · rw [over_out B c] at h
    exact S.bh a o h
theorem Sy.lendBack (S : Sy e B H L) (T : Sy ⟨[], [], over B L, H⟩ B' H' N) : Same B (less B' L) ∧ Sy e (less B' L) H' (N ++ L) ∧ ∀ p ∈ N, e.H p.1 = Option.none := by
  have hN : ∀ p ∈ N, H p.1 = Option.none := fun p hp => by
    obtain ⟨_, _, r3, _⟩ := T.led p hp
    rcases r3 with z | z
    · cases z
    · exact z
  have hN2 : ∀ p ∈ N, e.H p.1 = Option.none := fun p hp => by
    cases q : e.H p.1 with
    | none => rfl
    | some x => exact absurd (hN p hp) (S.there p.1 (by rw [q]; simp))
  have kp : ∀ a o, H a = some o → H' a = some o := fun a o h => T.keep a o (by simp) (by simp) h
  have out : ∀ {a o}, less B' L a = some o → a ∉ L.map (·.1) ∧ B' a = some o := fun {a o} h => by
    unfold less at h
    by_cases c : a ∈ L.map (·.1)
    · rw [if_pos c] at h; cases h
    · rw [if_neg c] at h; exact ⟨c, h⟩
  have b0 : Same B (less B' L) := fun a o h => by
    unfold less
    rw [if_neg (S.bout h)]
    exact T.b0 a o (S.toOver a o h)
  refine ⟨b0, ⟨S.b0.trans b0, fun a o h => T.bh a o (out h).2, fun p hp => ?_, ?_, fun a o h1 h2 q => kp a o (S.keep a o h1 h2 q), fun a r1 r2 => ?_, fun a r => T.there a (S.there a r), fun p hp => kp _ _ (S.zin p hp), fun a x q hk => ?_⟩, hN2⟩
  · rcases List.mem_append.mp hp with hp | hp
    · obtain ⟨r1, r2, r3, r4⟩ := T.led p hp
      refine ⟨r1, ?_, .inr (hN2 p hp), fun z => ?_⟩
      · unfold less
        split
        · rfl
        · exact r2
      · obtain ⟨q, hq, e1⟩ := List.mem_map.mp z
        have := S.zin q hq
        rw [show q.1 = p.1 from e1, hN p hp] at this
        cases this
    · obtain ⟨s1, s2, s3, s4⟩ := S.led p hp
      refine ⟨kp _ _ s1, ?_, s3, s4⟩
      unfold less
      rw [if_pos (List.mem_map.mpr ⟨p, hp, rfl⟩)]
  · rw [List.map_append]
    refine List.nodup_append.mpr ⟨T.nd, S.nd, fun a ha b hb hab => ?_⟩
    subst hab
    obtain ⟨p, hp, ep⟩ := List.mem_map.mp ha
    obtain ⟨r, hr, er⟩ := List.mem_map.mp hb
    have q1 := hN p hp
    have q2 := (S.led r hr).1
    rw [show p.1 = a from ep] at q1
    rw [show r.1 = a from er, q1] at q2
    cases q2
  · unfold less
    split
    · rfl
    · next c => exact T.fresh a (S.there a r1) (by show over B L a = _; rw [over_out B c]; exact S.fresh a r1 r2)
  · obtain ⟨c, q⟩ := out q
    rcases T.lk a x q hk with z | z | ⟨ob, u, z⟩
    · exact .inl z
    · exact absurd z (by simp)
    · have z : H a = some (.frz ob u) := z
      cases r : B a with
      | none =>
        have := T.fresh a (by show H a ≠ _; rw [z]; simp) (by show over B L a = _; rw [over_out B c]; exact r)
        rw [q] at this; cases this
      | some y =>
        have e1 : B' a = some y := T.b0 a y (S.toOver a y r)
        rw [q] at e1; cases e1
        rcases S.lk a x r hk with z2 | z2 | z2
        · rw [z] at z2; cases z2; exact hk.elim
        · exact .inr (.inl z2)
        · exact .inr (.inr z2)
/-- a call that may read all of the ledger -/
theorem y_lend (S : Sy e B H L) (h : φ (over B L) vs [] fun B' v N => ∀ H', Same (over B L) B' → Same B (less B' L) → Sy e (less B' L) H' (N ++ L) → (∀ p ∈ N, e.H p.1 = none) → Q v H')
    (mono : ∀ (B : Hp) (k k' : Hp → V → Led → Prop), (∀ B' v N, k B' v N → k' B' v N) → φ B vs [] k → φ B vs [] k') : spY φ vs H Q E :=
  ⟨over B L, [], S.lendHand, mono _ _ _ (fun B' v N hk H' T => by
    obtain ⟨h1, h2, h3⟩ := S.lendBack T
    exact hk H' T.b0 h1 h2 h3) h⟩
/-- lists and dicts alone -/
def Flat (L : Led) : Prop := ∀ p ∈ L, (∃ xs, p.2 = .lst xs) ∨ ∃ kvs, p.2 = .dK kvs
theorem less_t (S : Sy e B H L) (hf : Flat L) (b : Same (over B L) B') (h : SqT K B' a xs) : SqT K (less B' L) a xs := by
  rcases h with h | h
  · have c : a ∉ L.map (·.1) := fun z => by
      obtain ⟨p, hp, e1⟩ := List.mem_map.mp z
      have h1 := b _ _ (over_in B S.nd hp)
      rw [show p.1 = a from e1] at h1
      rcases hf p hp with ⟨ys, e2⟩ | ⟨ys, e2⟩ <;> rw [e2] at h1 <;> rcases h with h | ⟨ob, h⟩ <;> rw [h1] at h <;> cases h
    refine .inl ?_
    rcases h with h | ⟨ob, h⟩
    · exact .inl (by rw [less_out c]; exact h)
    · exact .inr ⟨ob, by rw [less_out c]; exact h⟩
  · exact .inr h
end
end Y
namespace K06
open PySem PySem.Spec PyProof.Rows L2 Y
local macro_rules | `(tactic| walk_at "asm") => `(tactic| assumption)
local macro_rules | `(tactic| walk_at "var") => `(tactic| ((with_reducible refine' y_var ?hv ?_); (case hv => exact rfl)))
/- facts of lists: the ledger, then the base -/
local macro_rules | `(tactic| walk_at "sq") => `(tactic| first
  | exact sqL (Sy.g0 (by assumption))
  | exact sqL (Sy.g1 (by assumption))
  | exact sqL (Sy.g2 (by assumption))
  | exact sqL (Sy.g3 (by assumption))
  | exact Sy.l (by assumption) (by assumption)
  | exact Sy.l (by assumption) (sqL (by assumption))
  | exact Sy.l (by assumption) (up_l (by assumption) (by assumption))
  | exact Sy.l (by assumption) (sqL (up_o (by assumption) (by assumption))))
local macro_rules | `(tactic| walk_at "sqt") => `(tactic| first
  | exact Sy.t (by assumption) (by assumption)
  | exact Sy.t (by assumption) (sqT (by assumption))
  | exact Sy.t (by assumption) (up_t (by assumption) (by assumption))
  | exact Sy.t (by assumption) (sqT (up_o (by assumption) (by assumption))))
local macro_rules | `(tactic| walk_at "y") => `(tactic| first
  | with_reducible refine y_seq ?_
  | with_reducible refine y_asg ?_
  | with_reducible refine y_gname ?_
  | with_reducible refine y_ret ?_
  | with_reducible refine y_drop ?_
  | with_reducible refine y_next ?_
  | walk_at "var"
  | with_reducible refine y_c ?_
  | with_reducible refine y_op ?_
  | with_reducible refine y_un ?_
  | with_reducible refine y_nil ?_
  | with_reducible refine y_cons ?_
  | with_reducible refine y_call ?_
  | with_reducible refine y_cb ?_
  | with_reducible refine y_test ?_
  | with_reducible refine y_tB ?_
  | with_reducible refine y_blK ?_
  | with_reducible refine y_and ?_
  | with_reducible refine y_or ?_
  | with_reducible refine y_not ?_
  | with_reducible refine y_andV ?_
  | with_reducible refine y_andK ?_
  | with_reducible refine y_orV ?_
  | with_reducible refine y_orK ?_
  | with_reducible refine y_notV ?_
  | with_reducible refine y_notK ?_
  | with_reducible refine y_chain ?_
  | with_reducible refine y_chK ?_
  | with_reducible refine y_ifE ?_
  | with_reducible refine y_addI ?_
  | with_reducible refine y_subI ?_
  | with_reducible refine y_negI ?_
  | with_reducible refine y_ltI ?_
  | with_reducible refine y_leI ?_
  | with_reducible refine y_gtI ?_
  | with_reducible refine y_geI ?_
  | with_reducible refine y_eqI ?_
  | with_reducible refine y_neI ?_
  | with_reducible refine y_eqS ?_
  | with_reducible refine y_neS ?_
  | with_reducible refine y_isN0 ?_
  | with_reducible refine y_isN1 ?_
  | with_reducible refine y_isN2 ?_
  | with_reducible refine y_notN0 ?_
  | with_reducible refine y_notN1 ?_
  | with_reducible refine y_notN2 ?_
  | with_reducible refine y_true ?_
  | with_reducible refine y_false ?_
  | with_reducible refine y_notT ?_
  | with_reducible refine y_notF ?_
  | with_reducible refine y_max2 ?_
  | with_reducible refine y_min2 ?_
  | with_reducible refine y_gsub ?_
  | with_reducible refine y_for ?_
  | with_reducible refine y_lc ?_
  | with_reducible refine y_tup ?_
  | with_reducible refine y_lst ?_
  | with_reducible refine y_bm ?_
  | with_reducible refine y_bm0 ?_
  | with_reducible refine y_sl ?_
  | with_reducible refine y_part ?_
  | with_reducible refine y_ptK ?_
  | with_reducible refine y_nopart ?_
  | ((with_reducible refine' y_mulI ?hc ?_); (case hc => first | exact .inl ⟨by omega, by omega⟩ | exact .inr ⟨by omega, by omega⟩))
  | ((with_reducible refine' y_modI ?hc ?_); (case hc => omega))
  | ((with_reducible refine' y_ixL ?hq ?ha ?_); (case hq => walk_at "sq"); (case ha => exact rfl))
  | ((with_reducible refine' y_ixT ?hq ?ha ?_); (case hq => walk_at "sqt"); (case ha => exact rfl))
  | ((with_reducible refine' y_lenL ?hq ?_); (case hq => walk_at "sq"))
  | ((with_reducible refine' y_lenT ?hq ?_); (case hq => walk_at "sqt"))
  | with_reducible refine y_dnew ?_
  | with_reducible refine y_callN ?_
  | with_reducible refine y_callNK rfl rfl ?_
  | with_reducible refine y_ikeys ?_
  | with_reducible refine y_gcons ?_
  | with_reducible refine y_gnil ?_
  | with_reducible refine y_irng3 ?_
  | with_reducible refine y_neIN ?_
  | with_reducible refine y_intB ?_
  | with_reducible refine y_intI ?_
  | with_reducible refine y_ivals ?_
  | with_reducible refine y_iitems ?_
  | with_reducible refine y_yes ?_
  | ((with_reducible refine And.intro ?hw ?_); (case hw => (show wipe _ _ = wipe _ _); exact rfl))
  | with_reducible refine y_irng1 ?_
  | with_reducible refine y_irng2 ?_
  | with_reducible refine y_ilist ?_
  | with_reducible refine y_istr ?_
  | with_reducible refine y_strK ?_
  | ((with_reducible refine' y_rngK ?h1 ?h2 ?_); (case h1 => omega); (case h2 => omega))
  | ((with_reducible refine' y_rngK2 ?h1 ?h2 ?h3 ?h4 ?_); (case h1 => omega); (case h2 => omega); (case h3 => omega); (case h4 => omega))
  | ((with_reducible refine' y_lstK ?hq ?_); (case hq => walk_at "sq"))
  | ((with_reducible refine And.intro (lenOk ?hl) ?_); (case hl => exact Nat.le_of_ble_eq_true rfl))
  | with_reducible refine And.intro (tyL (Sy.g0 (by assumption))) ?_
  | with_reducible refine And.intro (tyL (Sy.g1 (by assumption))) ?_
  | with_reducible refine And.intro (tyL (Sy.g2 (by assumption))) ?_
  | with_reducible refine And.intro (tyL (Sy.g3 (by assumption))) ?_)
local macro_rules | `(tactic| walk_at "yy") => `(tactic| repeat (first | walk_at "y" | with_reducible refine y_ifS ?_))
/- the walk ahead of an if -/
local macro_rules | `(tactic| walk_at "yn") => `(tactic| repeat walk_at "y")

section
variable {P : Program} {w : World} {K : PySem.W.Frag} {mg : Str → Option Value} {base : Heap}
def topS (i : Nat) : Stmt := PySem.Challenge.pw_slotkeep_k06_whole_chains_of_dealings_in.main.body.getD i (.Pass ⟨0, 0, 0, 0⟩)
abbrev s_is_within : Stmt := topS 1
theorem sc_is_within : FnScope ["version", "places", "stand"] ["version", "places", "stand"] (defScope s_is_within) := ⟨rfl, rfl, rfl, by decide +kernel, rfl, by decide +kernel, by decide +kernel⟩
abbrev s_seen : Stmt := topS 2
theorem sc_seen : FnScope ["chain", "places", "stand", "dealing", "found", "version"] ["chain", "places", "stand", "dealing"] (defScope s_seen) := ⟨rfl, rfl, rfl, by decide +kernel, rfl, by decide +kernel, by decide +kernel⟩
abbrev s_newest : Stmt := topS 3
theorem sc_newest : FnScope ["chain", "places", "found", "version"] ["chain", "places"] (defScope s_newest) := ⟨rfl, rfl, rfl, by decide +kernel, rfl, by decide +kernel, by decide +kernel⟩
abbrev s_gone : Stmt := topS 4
theorem sc_gone : FnScope ["chain", "places", "undone", "horizon", "last", "version", "found", "number", "writer", "worth"] ["chain", "places", "undone", "horizon"] (defScope s_gone) := ⟨rfl, rfl, rfl, by decide +kernel, rfl, by decide +kernel, by decide +kernel⟩
abbrev s_l_cell_at : Stmt := topS 6
theorem sc_l_cell_at : FnScope ["script", "k"] ["script", "k"] (defScope s_l_cell_at) := ⟨rfl, rfl, rfl, by decide +kernel, rfl, by decide +kernel, by decide +kernel⟩
abbrev s_l_bag : Stmt := topS 7
theorem sc_l_bag : FnScope ["cell", "place"] ["cell", "place"] (defScope s_l_bag) := ⟨rfl, rfl, rfl, by decide +kernel, rfl, by decide +kernel, by decide +kernel⟩
abbrev s_l_draw : Stmt := topS 8
theorem sc_l_draw : FnScope ["bag", "many", "found", "mixed"] ["bag", "many"] (defScope s_l_draw) := ⟨rfl, rfl, rfl, by decide +kernel, rfl, by decide +kernel, by decide +kernel⟩
abbrev s_law : Stmt := topS 9
theorem sc_law : FnScope ["script", "k", "bag", "rows", "table", "lost", "copies", "least", "number", "one", "worth", "j", "found", "out", "at", "top", "row"] ["script"] (defScope s_law) := ⟨rfl, rfl, rfl, by decide +kernel, rfl, by decide +kernel, by decide +kernel⟩
structure Tx (K : PySem.W.Frag) (mg : Str → Option Value) : Prop where
  F_is_within : ∃ fd, FunD K "is_within" "is_within" (defArgs s_is_within) (defBody s_is_within) (defScope s_is_within) [] [] (He.ga K "is_within") fd
  g_is_within : mg "is_within" = some (.ref (He.ga K "is_within"))
  F_seen : ∃ fd, FunD K "seen" "seen" (defArgs s_seen) (defBody s_seen) (defScope s_seen) [V.int 0] [] (He.ga K "seen") fd
  g_seen : mg "seen" = some (.ref (He.ga K "seen"))
  F_newest : ∃ fd, FunD K "newest" "newest" (defArgs s_newest) (defBody s_newest) (defScope s_newest) [] [] (He.ga K "newest") fd
  g_newest : mg "newest" = some (.ref (He.ga K "newest"))
  F_gone : ∃ fd, FunD K "gone" "gone" (defArgs s_gone) (defBody s_gone) (defScope s_gone) [] [] (He.ga K "gone") fd
  g_gone : mg "gone" = some (.ref (He.ga K "gone"))
  F_l_cell_at : ∃ fd, FunD K "_law_cell_at" "_law_cell_at" (defArgs s_l_cell_at) (defBody s_l_cell_at) (defScope s_l_cell_at) [] [] (He.ga K "_law_cell_at") fd
  g_l_cell_at : mg "_law_cell_at" = some (.ref (He.ga K "_law_cell_at"))
  F_l_bag : ∃ fd, FunD K "_law_bag" "_law_bag" (defArgs s_l_bag) (defBody s_l_bag) (defScope s_l_bag) [] [] (He.ga K "_law_bag") fd
  g_l_bag : mg "_law_bag" = some (.ref (He.ga K "_law_bag"))
  F_l_draw : ∃ fd, FunD K "_law_draw" "_law_draw" (defArgs s_l_draw) (defBody s_l_draw) (defScope s_l_draw) [] [] (He.ga K "_law_draw") fd
  g_l_draw : mg "_law_draw" = some (.ref (He.ga K "_law_draw"))
  F_law : ∃ fd, FunD K "law" "law" (defArgs s_law) (defBody s_law) (defScope s_law) [] [] (He.ga K "law") fd
  g_law : mg "law" = some (.ref (He.ga K "law"))
  n_len : mg "len" = none
  n_max : mg "max" = none
  n_min : mg "min" = none
  n_range : mg "range" = none

theorem ok_l_draw (T : Tx K mg) : Ok P w K mg base 1 "_law_draw" ["bag", "many"] (spY φ_draw) := by
  refine Ok.mk T.F_l_draw T.g_l_draw sc_l_draw (fun _ _ _ _ _ _ us hl => match us, hl with | [_, _], _ => rfl) (fun B vs L k h => by obtain ⟨_, _, _, _, rfl, _⟩ := h; rfl) (fun cdv A outer s H vs Q E B L e hz he hr S h => ?_)
  obtain ⟨b, o, many, n, rfl, rfl, ⟨x, y, z, rfl, h1, h2, h3, h4⟩, h5, h6, k⟩ := h
  refine ⟨_, (pss_cons (ps_if (pt_cmpR op_gtU (pe_ix (ix_U (K := K) rfl (hu_of hr)) (pv 0) pe_int (fun _ _ => rfl)) pe_int (nomark _))
      (pss_cons (ps_set (i := 2) sc_l_draw.nd rfl (.inl rfl) (pe_op op_modU (pe_ix (ix_U (K := K) rfl (hu_of hr)) (pv 0) pe_int (fun _ _ => rfl)) (pv 1)))
      (pss_cons (ps_asg (pe_op op_divU (pe_ix (ix_U (K := K) rfl (hu_of hr)) (pv 0) pe_int (fun _ _ => rfl)) (pv 1)) (pg_sub (pv 0) pe_int (set_U (hu_of hr))))
      (pss_one (ps_ret (pv 2)))))
      pss_nil)
      (pss_cons (ps_asg (pe_op (op_addU (K := K) rfl) (pe_ix (ix_U (K := K) rfl (hu_of hr)) (pv 0) pe_int (fun _ _ => rfl)) pe_int) (pg_sub (pv 0) pe_int (set_U (hu_of hr))))
      (pss_cons (ps_set (i := 3) sc_l_draw.nd rfl (.inl rfl) (pe_op op_modU (pe_op op_powU (pe_op (op_addU (K := K) rfl) (pe_ix (ix_U (K := K) rfl (hu_of hr)) (pv 0) pe_int (fun _ _ => rfl)) (pe_op op_mulU pe_int (pe_ix (ix_U (K := K) rfl (hu_of hr)) (pv 0) pe_int (fun _ _ => rfl)))) pe_int) pe_int))
      (pss_cons (ps_set (i := 3) sc_l_draw.nd rfl (.inl rfl) (pe_op op_modU (pe_op op_powU (pe_op (op_addU (K := K) rfl) (pv 3) (pe_op op_mulU pe_int (pe_ix (ix_U (K := K) rfl (hu_of hr)) (pv 0) pe_int (fun _ _ => rfl)))) pe_int) pe_int))
      (pss_one (ps_ret (pe_op op_modU (pe_op op_divU (pv 3) pe_int) (pv 1)))))))), ?_⟩
  walk_at "yy"
  refine y_ite (fun hc => ?_) (fun hc => ?_)
  · walk_at "yy"
    refine y_divI (wide_div h5 (b := 100) (by omega) (by decide) (by decide)) ?_
    walk_at "yy"
    refine y_setL0 S rfl fun H' S' => ?_
    walk_at "yy"
    exact k _ _ (Int.emod_nonneg _ (by omega)) (Int.emod_lt_of_pos _ h5) ⟨_, _, _, rfl, h1, h2, h3, by omega⟩ _ S'
  · walk_at "yy"
    refine y_setL0 S rfl fun H' S' => ?_
    walk_at "yy"
    refine y_powI (pow_ok (b := 201) (by omega) (by decide) (by decide) (by decide) (by decide)) ?_
    walk_at "yy"
    have m1 := Int.emod_nonneg ((y + 7368787 * (z + 1)) ^ Int.toNat 3) (b := 170141183460469231731687303715884105727) (by decide)
    have m2 := Int.emod_lt_of_pos ((y + 7368787 * (z + 1)) ^ Int.toNat 3) (b := 170141183460469231731687303715884105727) (by decide)
    refine y_powI (pow_ok (b := 201) (by omega) (by decide) (by decide) (by decide) (by decide)) ?_
    walk_at "yy"
    refine y_divI (wide_div (by decide) (b := 100) (by decide) (by decide) (by decide)) ?_
    walk_at "yy"
    exact k _ _ (Int.emod_nonneg _ (by omega)) (Int.emod_lt_of_pos _ h5) ⟨_, _, _, rfl, h1, h2, by omega, by omega⟩ _ S'
theorem ok_l_cell_at (T : Tx K mg) : Ok P w K mg base 1 "_law_cell_at" ["script", "k"] (spY (φ_cell K)) := by
  refine Ok.mk T.F_l_cell_at T.g_l_cell_at sc_l_cell_at (fun _ _ _ _ _ _ us hl => match us, hl with | [_, _], _ => rfl) (fun B vs L k h => by obtain ⟨_, _, _, rfl, _⟩ := h; rfl) (fun cdv A outer s H vs Q E B L e hz he hr S h => ?_)
  obtain ⟨a, ns, i, rfl, rfl, hq, hi, k⟩ := h
  refine ⟨_, (pss_cons (ps_if (pt_cmpR op_ltU (pv 1) (pe_callB (call_lenU (K := K) rfl) (by rfl) T.n_len (by decide +kernel) (pa_cons (pv 0) pa_nil)) (nomark _))
      (pss_one (ps_ret (pe_ix (ix_U (K := K) rfl (hu_of hr)) (pv 0) (pv 1) (fun _ _ => rfl))))
      pss_nil)
      (pss_one (ps_ret pe_int))), ?_⟩
  walk_at "yy"
  refine y_ite (fun hc => ?_) (fun hc => ?_)
  · walk_at "yy"
    rw [List.length_map] at hc
    have h2 : i.toNat < ns.length := by omega
    exact y_ixL (S.l hq) (v := .int ns[i.toNat]) (atI_of hi (by simp [h2])) (k _ _ S)
  · walk_at "yy"
    exact k _ _ S
theorem ok_l_bag (T : Tx K mg) : Ok P w K mg base 1 "_law_bag" ["cell", "place"] (spY φ_bag) := by
  refine Ok.mk T.F_l_bag T.g_l_bag sc_l_bag (fun _ _ _ _ _ _ us hl => match us, hl with | [_, _], _ => rfl) (fun B vs L k h => by obtain ⟨_, _, rfl, _⟩ := h; rfl) (fun cdv A outer s H vs Q E B L e hz he hr S h => ?_)
  obtain ⟨c, p, rfl, rfl, h0, h1, k⟩ := h
  refine ⟨_, (pss_one (ps_ret (pe_lst (pa_cons (pe_callB (call_max2U rfl) (by rfl) T.n_max (by decide +kernel) (pa_cons pe_int (pa_cons (pe_op op_subU (pv 0) (pe_op op_powU pe_int pe_int)) pa_nil))) (pa_cons (pe_op (op_addU (K := K) rfl) (pe_op op_modU (pv 0) pe_int) (pe_op op_mulU pe_int (pv 1))) (pa_cons pe_int pa_nil)))))), ?_⟩
  walk_at "yy"
  refine y_powI (pow_ok (b := 4) (by decide) (by decide) (by decide) (by decide) (by decide)) ?_
  walk_at "yy"
  refine y_newM S fun q H' h2 S' => ?_
  have m1 := Int.emod_nonneg c (b := 170141183460469231731687303715884105727) (by decide)
  have m2 := Int.emod_lt_of_pos c (b := 170141183460469231731687303715884105727) (by decide)
  exact k _ _ ⟨_, _, _, rfl, by omega, by omega, by omega, by omega⟩ _ S'

/-- within the stand -/
def within (t : Tab) (st : Int) (r : Ver) : Bool := match look t r.2.1 with
  | none => false
  | some p => decide (p ≤ st)
def φ_within (K : PySem.W.Frag) : Ph := fun B vs L k => ∃ (v : V) (d : Addr) (r : Ver) (t : Tab) (st : Int), vs = [v, .ref d, .int st] ∧ L = [] ∧ RowAt K B v r ∧ B d = some (.dK (t.map enc)) ∧ k B (.bl (within t st r)) []
theorem ok_is_within (T : Tx K mg) : Ok P w K mg base 1 "is_within" ["version", "places", "stand"] (spY (φ_within K)) := by
  refine Ok.mk T.F_is_within T.g_is_within sc_is_within (fun _ _ _ _ _ _ us hl => match us, hl with | [_, _, _], _ => rfl) (fun B vs L k h => by obtain ⟨_, _, _, _, _, rfl, _⟩ := h; rfl) (fun cdv A outer s H vs Q E B L e hz he hr S h => ?_)
  obtain ⟨v, d, r, t, st, rfl, rfl, ⟨p, rfl, hp⟩, hd, k⟩ := h
  refine ⟨_, (pss_one (ps_ret (pe_and (pe_cmpR (op_inU (K := K) rfl (hu_of hr)) (pe_ix (ix_U (K := K) rfl (hu_of hr)) (pv 0) pe_int (fun _ _ => rfl)) (pv 1) (by rfl)) (pe_one (pe_cmpR op_leU (pe_ix (ix_U (K := K) rfl (hu_of hr)) (pv 1) (pe_ix (ix_U (K := K) rfl (hu_of hr)) (pv 0) pe_int (fun _ _ => rfl)) (fun _ _ => rfl)) (pv 2) (nomark _)))))), ?_⟩
  walk_at "yn"
  refine y_inTab S hd ?_
  walk_at "yn"
  unfold within at k
  cases q : look t r.2.1 with
  | none =>
    rw [q] at k
    walk_at "yn"
    show (if false = true then _ else _)
    walk_at "yn"
    exact k _ S
  | some z =>
    rw [q] at k
    show (if true = true then _ else _)
    walk_at "yn"
    refine y_ixTab S hd q ?_
    walk_at "yn"
    exact k _ S
theorem y_within {e : En} {B H : Hp} {L : Led} {Q : VK} {E : XK} {v : V} {d : Addr} {r : Ver} {t : Tab} {st : Int} (S : Sy e B H L) (hv : RowAt K B v r) (hd : B d = some (.dK (t.map enc)))
    (k : ∀ H', Sy e B H' L → Q (.bl (within t st r)) H') : spY (φ_within K) [v, .ref d, .int st] H Q E :=
  y_sp0 S ⟨v, d, r, t, st, rfl, rfl, hv, hd, fun H' T => k H' (S.back0 T)⟩

/-- the last one of those that may be seen -/
def mayF (t : Tab) (st who : Int) (r : Ver) : Bool := decide (r.2.1 = who) || within t st r
def seenF (t : Tab) (st who : Int) (rs : List Ver) : Option Ver := (rs.filter (mayF t st who)).getLast?
def φ_seen (K : PySem.W.Frag) : Ph := fun B vs L k => ∃ (a d : Addr) (st who : Int) (ws : List V) (rs : List Ver) (t : Tab), vs = [.ref a, .ref d, .int st, .int who] ∧ L = [] ∧ SqL K B a ws ∧ RowsAt K B ws rs ∧ B d = some (.dK (t.map enc)) ∧
  ∀ v, OptAt K B v (seenF t st who rs) → k B v []
theorem seen_step {t : Tab} {st who : Int} {rs : List Ver} {i : Nat} {r : Ver} (h : rs[i]? = some r) : seenF t st who (rs.take (i + 1)) = if mayF t st who r = true then some r else seenF t st who (rs.take i) := by
  unfold seenF
  rw [List.take_add_one, h, List.filter_append]
  by_cases c : mayF t st who r = true
  · rw [if_pos c]
    simp [c]
  · rw [if_neg c]
    simp [c]
theorem fn_seen (T : Tx K mg) (fd : FuncData) (F : FunD K "seen" "seen" (defArgs s_seen) (defBody s_seen) (defScope s_seen) [V.int 0] [] (He.ga K "seen") fd) : FnOk P w K mg base CX0 2 (He.ga K "seen") fd ["chain", "places", "stand", "dealing"] (spY (φ_seen K)) := by
  refine fnY F sc_seen (fun B vs L k h => by obtain ⟨_, _, _, _, _, _, _, rfl, _⟩ := h; rfl) (fun cdv A outer s H vs Q E B L e hz he hr S h => ?_)
  obtain ⟨a, d, st, who, ws, rs, t, rfl, rfl, hq, hr1, hd, k⟩ := h
  refine ⟨_, (pss_cons (ps_set (i := 4) sc_seen.nd rfl (.inl rfl) pe_non)
      (pss_cons (ps_for PassesOwn.never rfl (pi_listK (K := K) rfl (pv 0)) (pg_name (i := 5) sc_seen.nd rfl (.inl rfl))
      (pss_one (ps_if (PW.pt (pw_or (pt_cmpR (op_eqU (K := K) rfl hr.units) (pe_ix (ix_U (K := K) rfl (hu_of hr)) (pv 5) pe_int (fun _ _ => rfl)) (pv 3) (nomark _)) (pw_or1 (pt_val (pe_callO (ok_is_within (K := K) T) hr (by rfl) (pa_cons (pv 5) (pa_cons (pv 1) (pa_cons (pv 2) pa_nil))))))))
      (pss_one (ps_set (i := 4) sc_seen.nd rfl (.inl rfl) (pv 5)))
      pss_nil)))
      (pss_one (ps_ret (pv 4))))), ?_⟩
  walk_at "yy"
  refine y_forL (xs := ws) (fun i σ H => ∃ (v : V) (y5 : Option V), σ = [some (.ref a), some (.ref d), some (.int st), some (.int who), some v, y5] ∧ Sy e B H [] ∧ OptAt K B v (seenF t st who (rs.take i))) ⟨.non, _, rfl, S, rfl⟩ (fun i σ H _ h => ?_) ?_ ?_
  · obtain ⟨_, _, _, S, _⟩ := h
    exact S.l hq
  · rintro i x σ H hx ⟨v, y5, rfl, S, ho⟩
    obtain ⟨r, hr2, p, rfl, hp⟩ := pr_getL hr1 hx
    rw [seen_step hr2]
    walk_at "yn"
    refine y_cutT (R := fun b H => b = mayF t st who r ∧ Sy e B H []) (fun Q' hQ => ?_) (fun b H hR => ?_)
    · walk_at "yy"
      refine y_iteI (fun h1 => ?_) (fun h1 => ?_)
      · exact hQ _ _ ⟨by unfold mayF; rw [decide_eq_true h1]; rfl, S⟩
      · walk_at "yy"
        refine y_within S ⟨p, rfl, hp⟩ hd fun H' S' => ?_
        walk_at "yy"
        exact hQ _ _ ⟨by unfold mayF; rw [decide_eq_false h1]; rfl, S'⟩
    · obtain ⟨rfl, S⟩ := hR
      refine y_iteB (fun h1 => ?_) (fun h1 => ?_)
      · walk_at "yy"
        exact ⟨_, _, rfl, S, by rw [if_pos h1]; exact ⟨p, rfl, hp⟩⟩
      · walk_at "yy"
        exact ⟨_, _, rfl, S, by rw [if_neg (by rw [h1]; decide)]; exact ho⟩
  · rintro σ H ⟨v, y5, rfl, S, ho⟩
    walk_at "yy"
    rw [List.take_of_length_le (by rw [← hr1.length]; exact Nat.le_refl _)] at ho
    exact k v ho _ S
theorem y_seen {e : En} {B H : Hp} {L : Led} {Q : VK} {E : XK} {a d : Addr} {st who : Int} {ws : List V} {rs : List Ver} {t : Tab} (S : Sy e B H L) (hq : SqL K B a ws) (hr : RowsAt K B ws rs) (hd : B d = some (.dK (t.map enc)))
    (k : ∀ v H', OptAt K B v (seenF t st who rs) → Sy e B H' L → Q v H') : spY (φ_seen K) [.ref a, .ref d, .int st, .int who] H Q E :=
  y_sp0 S ⟨a, d, st, who, ws, rs, t, rfl, rfl, hq, hr, hd, fun v hv H' T => k v H' hv (S.back0 T)⟩
theorem ok_seen (T : Tx K mg) : Ok P w K mg base 2 "seen" ["chain", "places", "stand", "dealing"] (spY (φ_seen K)) :=
  (OkD.of 4 1 T.F_seen T.g_seen (by simp) rfl (fun _ _ _ _ _ _ _ us its hl hl2 => match us, its, hl, hl2 with | [_, _, _, _], [_], _, _ => ⟨_, rfl, rfl⟩) (fn_seen T)).all
theorem okd_seen_3 (T : Tx K mg) : OkD P w K mg base 2 "seen" ["chain", "places", "stand", "dealing"] [V.int 0] (spY (φ_seen K)) :=
  OkD.of 3 0 T.F_seen T.g_seen (by simp) rfl (fun _ _ _ _ _ _ _ us its hl hl2 => match us, its, hl, hl2 with | [_, _, _], [_], _, _ => ⟨_, rfl, rfl⟩) (fn_seen T)

/-- the version of the greatest place so far -/
def newStep (t : Tab) (acc : Option Ver) (r : Ver) : Option Ver := match look t r.2.1 with
  | none => acc
  | some p => (match acc with
    | none => some r
    | some f => (match look t f.2.1 with
      | none => some r
      | some q => if q ≤ p then some r else acc))
theorem newStep_in {t : Tab} : ∀ (rs : List Ver) (acc : Option Ver), (∀ f, acc = some f → (look t f.2.1).isSome = true) → ∀ f, rs.foldl (newStep t) acc = some f → (look t f.2.1).isSome = true
  | [], acc, h, f, e => h f e
  | r :: rs, acc, h, f, e => by
    refine newStep_in rs (newStep t acc r) (fun g eg => ?_) f e
    unfold newStep at eg
    cases q : look t r.2.1 with
    | none => rw [q] at eg; exact h g eg
    | some p =>
      rw [q] at eg
      have hr : (look t r.2.1).isSome = true := by rw [q]; rfl
      cases acc with
      | none => cases eg; exact hr
      | some a =>
        dsimp only at eg
        cases q2 : look t a.2.1 with
        | none => rw [q2] at eg; cases eg; exact hr
        | some b =>
          rw [q2] at eg
          dsimp only at eg
          split at eg
          · cases eg; exact hr
          · exact h g eg
def newestF (t : Tab) (rs : List Ver) : Option Ver := rs.foldl (newStep t) none
/-- what newest tells: of the rows within the table the last one by place, then by number -/
theorem newestF_spec {t : Tab} : ∀ (rs : List Ver), (rs.map (·.1)).Pairwise (· < ·) →
    (newestF t rs = none ∧ ∀ r ∈ rs, look t r.2.1 = none) ∨
    ∃ f q, newestF t rs = some f ∧ f ∈ rs ∧ look t f.2.1 = some q ∧ ∀ r ∈ rs, ∀ p, look t r.2.1 = some p → LexLe (p, r.1) (q, f.1) := by
  intro rs
  refine snoc_ind (P := fun rs => (rs.map (·.1)).Pairwise (· < ·) → (newestF t rs = none ∧ ∀ r ∈ rs, look t r.2.1 = none) ∨ ∃ f q, newestF t rs = some f ∧ f ∈ rs ∧ look t f.2.1 = some q ∧ ∀ r ∈ rs, ∀ p, look t r.2.1 = some p → LexLe (p, r.1) (q, f.1)) ?_ ?_ rs
  · intro _
    exact .inl ⟨rfl, fun r h => by cases h⟩
  · intro rs r ih hup
    rw [List.map_append, List.pairwise_append] at hup
    have hlt : ∀ r' ∈ rs, r'.1 < r.1 := fun r' h => hup.2.2 _ (List.mem_map.mpr ⟨r', h, rfl⟩) _ (by simp)
    have e : newestF t (rs ++ [r]) = newStep t (newestF t rs) r := by unfold newestF; rw [List.foldl_append]; rfl
    rw [e]
    unfold newStep
    rcases ih hup.1 with ⟨e1, h1⟩ | ⟨f, q, e1, h1, h2, h3⟩
    · rw [e1]
      cases z : look t r.2.1 with
      | none =>
        refine .inl ⟨rfl, fun r' h => ?_⟩
        rcases List.mem_append.mp h with h | h
        · exact h1 r' h
        · have : r' = r := by simpa using h
          rw [this]; exact z
      | some p =>
        refine .inr ⟨r, p, rfl, by simp, z, fun r' h p' hp' => ?_⟩
        rcases List.mem_append.mp h with h | h
        · rw [h1 r' h] at hp'; cases hp'
        · have : r' = r := by simpa using h
          subst this
          rw [z] at hp'; cases hp'
          exact .inr ⟨rfl, Int.le_refl _⟩
    · rw [e1]
      cases z : look t r.2.1 with
      | none =>
        refine .inr ⟨f, q, rfl, by simp [h1], h2, fun r' h p' hp' => ?_⟩
        rcases List.mem_append.mp h with h | h
        · exact h3 r' h p' hp'
        · have : r' = r := by simpa using h
          rw [this, z] at hp'; cases hp'
      | some p =>
        dsimp only
        rw [h2]
        dsimp only
        by_cases c : q ≤ p
        · rw [if_pos c]
          refine .inr ⟨r, p, rfl, by simp, z, fun r' h p' hp' => ?_⟩
          rcases List.mem_append.mp h with h | h
          · have := h3 r' h p' hp'
            have l := hlt r' h
            unfold LexLe at *
            dsimp only at *
            omega
          · have : r' = r := by simpa using h
            subst this
            rw [z] at hp'; cases hp'
            exact .inr ⟨rfl, Int.le_refl _⟩
        · rw [if_neg c]
          refine .inr ⟨f, q, rfl, by simp [h1], h2, fun r' h p' hp' => ?_⟩
          rcases List.mem_append.mp h with h | h
          · exact h3 r' h p' hp'
          · have : r' = r := by simpa using h
            subst this
            rw [z] at hp'; cases hp'
            exact .inl (Int.not_le.mp c)
/-- the pairs by which the law sorts -/
def pairsF (t : Tab) (rs : List Ver) : List (Int × Int) := rs.filterMap fun r => (look t r.2.1).map fun p => (p, r.1)
theorem lex_anti {p q : Int × Int} (h1 : LexLe p q) (h2 : LexLe q p) : p = q := by
  unfold LexLe at *
  exact Prod.ext (by omega) (by omega)
theorem last_max {l : List (Int × Int)} {x : Int × Int} (h : (l ++ [x]).Pairwise LexLe) : ∀ y ∈ l ++ [x], LexLe y x := fun y hy => by
  rcases List.mem_append.mp hy with hy | hy
  · exact (List.pairwise_append.mp h).2.2 y hy x (by simp)
  · have : y = x := by simpa using hy
    subst this
    exact .inr ⟨rfl, Int.le_refl _⟩
/-- sorted, the last pair tells the newest -/
theorem newest_by_sort {t : Tab} {rs : List Ver} {qs : List (Int × Int)} (hup : (rs.map (·.1)).Pairwise (· < ·)) (hp : qs.Perm (pairsF t rs)) (hs : qs.Pairwise LexLe) :
    (qs = [] ∧ newestF t rs = none) ∨ ∃ l x f, qs = l ++ [x] ∧ newestF t rs = some f ∧ f ∈ rs ∧ f.1 = x.2 := by
  have mem : ∀ r ∈ rs, ∀ p, look t r.2.1 = some p → (p, r.1) ∈ qs := fun r hr p h => hp.mem_iff.mpr (List.mem_filterMap.mpr ⟨r, hr, by rw [h]; rfl⟩)
  rcases newestF_spec rs hup with ⟨e1, h1⟩ | ⟨f, q, e1, h1, h2, h3⟩
  · refine .inl ⟨?_, e1⟩
    have : pairsF t rs = [] := by
      unfold pairsF
      rw [List.filterMap_eq_nil_iff]
      intro r hr
      rw [h1 r hr]; rfl
    rw [this] at hp
    exact hp.eq_nil
  · refine .inr ?_
    have hne : qs ≠ [] := fun z => by
      have := mem f h1 q h2
      rw [z] at this; cases this
    refine ⟨qs.dropLast, qs.getLast hne, f, (List.dropLast_concat_getLast hne).symm, e1, h1, ?_⟩
    have hx : qs.getLast hne ∈ pairsF t rs := hp.mem_iff.mp (List.getLast_mem hne)
    obtain ⟨r, hr, er⟩ := List.mem_filterMap.mp hx
    obtain ⟨p, hp1, hp2⟩ := Option.map_eq_some_iff.mp er
    have a1 : LexLe (qs.getLast hne) (q, f.1) := by rw [← hp2]; exact h3 r hr p hp1
    have hs' : (qs.dropLast ++ [qs.getLast hne]).Pairwise LexLe := by rw [List.dropLast_concat_getLast hne]; exact hs
    have a2 : LexLe (q, f.1) (qs.getLast hne) := last_max hs' _ (by rw [List.dropLast_concat_getLast hne]; exact mem f h1 q h2)
    rw [← lex_anti a2 a1]
def φ_newest (K : PySem.W.Frag) : Ph := fun B vs L k => ∃ (a d : Addr) (ws : List V) (rs : List Ver) (t : Tab), vs = [.ref a, .ref d] ∧ L = [] ∧ SqL K B a ws ∧ RowsAt K B ws rs ∧ B d = some (.dK (t.map enc)) ∧
  ∀ v, OptAt K B v (newestF t rs) → k B v []
theorem fn_newest (T : Tx K mg) (fd : FuncData) (F : FunD K "newest" "newest" (defArgs s_newest) (defBody s_newest) (defScope s_newest) [] [] (He.ga K "newest") fd) : FnOk P w K mg base CX0 1 (He.ga K "newest") fd ["chain", "places"] (spY (φ_newest K)) := by
  refine fnY F sc_newest (fun B vs L k h => by obtain ⟨_, _, _, _, _, rfl, _⟩ := h; rfl) (fun cdv A outer s H vs Q E B L e hz he hr S h => ?_)
  obtain ⟨a, d, ws, rs, t, rfl, rfl, hq, hr1, hd, k⟩ := h
  refine ⟨_, (pss_cons (ps_set (i := 2) sc_newest.nd rfl (.inl rfl) pe_non)
      (pss_cons (ps_for PassesOwn.never rfl (pi_listK (K := K) rfl (pv 0)) (pg_name (i := 3) sc_newest.nd rfl (.inl rfl))
      (pss_one (ps_if (PW.pt (pw_and (pt_cmpR (op_inU (K := K) rfl (hu_of hr)) (pe_ix (ix_U (K := K) rfl (hu_of hr)) (pv 3) pe_int (fun _ _ => rfl)) (pv 1) (by rfl)) (pw_and1 (PW.pt (pw_or (pt_cmpR op_isU (pv 2) pe_non (nomark _)) (pw_or1 (pt_cmpR op_geU (pe_ix (ix_U (K := K) rfl (hu_of hr)) (pv 1) (pe_ix (ix_U (K := K) rfl (hu_of hr)) (pv 3) pe_int (fun _ _ => rfl)) (fun _ _ => rfl)) (pe_ix (ix_U (K := K) rfl (hu_of hr)) (pv 1) (pe_ix (ix_U (K := K) rfl (hu_of hr)) (pv 2) pe_int (fun _ _ => rfl)) (fun _ _ => rfl)) (nomark _))))))))
      (pss_one (ps_set (i := 2) sc_newest.nd rfl (.inl rfl) (pv 3)))
      pss_nil)))
      (pss_one (ps_ret (pv 2))))), ?_⟩
  walk_at "yy"
  refine y_forL (xs := ws) (fun i σ H => ∃ (v : V) (y3 : Option V), σ = [some (.ref a), some (.ref d), some v, y3] ∧ Sy e B H [] ∧ OptAt K B v ((rs.take i).foldl (newStep t) none)) ⟨.non, _, rfl, S, rfl⟩ (fun i σ H _ h => ?_) ?_ ?_
  · obtain ⟨_, _, _, S, _⟩ := h
    exact S.l hq
  · rintro i x σ H hx ⟨v, y3, rfl, S, ho⟩
    obtain ⟨r, hr2, p, rfl, hp⟩ := pr_getL hr1 hx
    rw [show rs.take (i + 1) = rs.take i ++ [r] by rw [List.take_add_one, hr2]; rfl, List.foldl_append]
    walk_at "yy"
    refine y_inTab S hd ?_
    walk_at "yy"
    refine y_iteB (fun hc => ?_) (fun hc => ?_)
    · obtain ⟨z, hz⟩ := Option.isSome_iff_exists.mp hc
      have hin := newStep_in (t := t) (rs.take i) none (fun f z => by cases z)
      generalize hacc : (rs.take i).foldl (newStep t) none = acc at ho hin
      walk_at "yy"
      cases acc with
      | none =>
        have ho : v = .non := ho
        subst ho
        walk_at "yy"
        exact ⟨_, _, rfl, S, by rw [List.foldl_cons, List.foldl_nil]; unfold newStep; rw [hz]; exact ⟨p, rfl, hp⟩⟩
      | some f =>
        obtain ⟨pf, rfl, hpf⟩ := ho
        obtain ⟨zf, hzf⟩ := Option.isSome_iff_exists.mp (hin f rfl)
        walk_at "yy"
        refine y_ixTab S hd hz ?_
        walk_at "yy"
        refine y_ixTab S hd hzf ?_
        walk_at "yy"
        refine y_ite (fun h1 => ?_) (fun h1 => ?_)
        · walk_at "yy"
          exact ⟨_, _, rfl, S, by rw [List.foldl_cons, List.foldl_nil]; unfold newStep; simp only [hz, hzf, if_pos h1]; exact ⟨p, rfl, hp⟩⟩
        · walk_at "yy"
          exact ⟨_, _, rfl, S, by rw [List.foldl_cons, List.foldl_nil]; unfold newStep; simp only [hz, hzf, if_neg h1]; exact ⟨pf, rfl, hpf⟩⟩
    · walk_at "yy"
      have hz : look t r.2.1 = none := by
        cases q : look t r.2.1 with
        | none => rfl
        | some z => rw [q] at hc; cases hc
      exact ⟨_, _, rfl, S, by rw [List.foldl_cons, List.foldl_nil]; unfold newStep; simp only [hz]; exact ho⟩
  · rintro σ H ⟨v, y3, rfl, S, ho⟩
    walk_at "yy"
    rw [List.take_of_length_le (by rw [← hr1.length]; exact Nat.le_refl _)] at ho
    exact k v ho _ S
theorem ok_newest (T : Tx K mg) : Ok P w K mg base 1 "newest" ["chain", "places"] (spY (φ_newest K)) := Ok.of T.F_newest T.g_newest (fun _ _ _ _ _ _ us hl => match us, hl with | [_, _], _ => rfl) (fn_newest T)
theorem y_newest {e : En} {B H : Hp} {L : Led} {Q : VK} {E : XK} {a d : Addr} {ws : List V} {rs : List Ver} {t : Tab} (S : Sy e B H L) (hq : SqL K B a ws) (hr : RowsAt K B ws rs) (hd : B d = some (.dK (t.map enc)))
    (k : ∀ v H', OptAt K B v (newestF t rs) → Sy e B H' L → Q v H') : spY (φ_newest K) [.ref a, .ref d] H Q E :=
  y_sp0 S ⟨a, d, ws, rs, t, rfl, rfl, hq, hr, hd, fun v hv H' T => k v H' hv (S.back0 T)⟩

/-- the number of the last one within -/
def lastF (t : Tab) (h : Int) (rs : List Ver) : Option Int := ((rs.filter (within t h)).getLast?).map (·.1)
theorem last_step {t : Tab} {h : Int} {rs : List Ver} {i : Nat} {r : Ver} (e : rs[i]? = some r) : lastF t h (rs.take (i + 1)) = if within t h r = true then some r.1 else lastF t h (rs.take i) := by
  unfold lastF
  rw [List.take_add_one, e, List.filter_append]
  by_cases c : within t h r = true
  · rw [if_pos c]
    simp [c]
  · rw [if_neg c]
    simp [c]
def outF (t : Tab) (lost : List Int) (h : Int) (last : Option Int) (r : Ver) : Bool := decide (r.2.1 ∈ lost) || (within t h r && (!decide (some r.1 = last) || r.2.2.isNone))
def goneF (t : Tab) (lost : List Int) (h : Int) (rs : List Ver) : List Int := (rs.filter (outF t lost h (lastF t h rs))).map (·.1)
theorem flt_step {p : Ver → Bool} {rs : List Ver} {i : Nat} {r : Ver} (e : rs[i]? = some r) : ((rs.take (i + 1)).filter p).map (·.1) = if p r = true then ((rs.take i).filter p).map (·.1) ++ [r.1] else ((rs.take i).filter p).map (·.1) := by
  rw [List.take_add_one, e, List.filter_append, List.map_append]
  by_cases c : p r = true
  · rw [if_pos c]
    simp [c]
  · rw [if_neg c]
    simp [c]
theorem y_neW {K : PySem.W.Frag} {H : Hp} {Q : VK} {i : Int} {o : Option Int} (q : Q (.bl (!decide (some i = o))) H) : rNeU K (.int i) (wV o) H Q := by
  cases o with
  | none => exact y_neIN q
  | some j =>
    refine y_neI ?_
    have e : decide (V.int i = V.int j) = decide (some i = some j) := by rw [Bool.eq_iff_iff]; simp
    rw [e]
    exact q
theorem y_isW {H : Hp} {Q : VK} {o : Option Int} (q : Q (.bl o.isNone) H) : rIsNU (wV o) .non H Q := by
  cases o with
  | none => exact y_isN0 q
  | some j => exact y_isN2 q
def φ_gone (K : PySem.W.Frag) : Ph := fun B vs L k => ∃ (a d u : Addr) (h : Int) (ws : List V) (rs : List Ver) (t : Tab) (lost : List Int), vs = [.ref a, .ref d, .ref u, .int h] ∧ L = [] ∧ SqL K B a ws ∧ RowsAt K B ws rs ∧ rs.length ≤ 1000 ∧ B d = some (.dK (t.map enc)) ∧ SqL K B u (lost.map V.int) ∧
  ∀ l, k B (.ref l) [(l, .lst ((goneF t lost h rs).map V.int))]
theorem fn_gone (T : Tx K mg) (fd : FuncData) (F : FunD K "gone" "gone" (defArgs s_gone) (defBody s_gone) (defScope s_gone) [] [] (He.ga K "gone") fd) : FnOk P w K mg base CX0 2 (He.ga K "gone") fd ["chain", "places", "undone", "horizon"] (spY (φ_gone K)) := by
  refine fnY F sc_gone (fun B vs L k h => by obtain ⟨_, _, _, _, _, _, _, _, rfl, _⟩ := h; rfl) (fun cdv A outer s H vs Q E B L e hz he hr S h => ?_)
  obtain ⟨a, d, u, h, ws, rs, t, lost, rfl, rfl, hq, hr1, hlen, hd, hu, k⟩ := h
  have hwl : ws.length = rs.length := hr1.length
  refine ⟨_, (pss_cons (ps_set (i := 4) sc_gone.nd rfl (.inl rfl) pe_non)
      (pss_cons (ps_for PassesOwn.never rfl (pi_listK (K := K) rfl (pv 0)) (pg_name (i := 5) sc_gone.nd rfl (.inl rfl))
      (pss_one (ps_if (pt_val (pe_callO (ok_is_within (K := K) T) hr (by rfl) (pa_cons (pv 5) (pa_cons (pv 1) (pa_cons (pv 3) pa_nil)))))
      (pss_one (ps_set (i := 4) sc_gone.nd rfl (.inl rfl) (pe_ix (ix_U (K := K) rfl (hu_of hr)) (pv 5) pe_int (fun _ _ => rfl))))
      pss_nil)))
      (pss_cons (ps_set (i := 6) sc_gone.nd rfl (.inl rfl) (pe_lst pa_nil))
      (pss_cons (ps_for PassesOwn.never rfl (pi_listK (K := K) rfl (pv 0)) (pg_name (i := 5) sc_gone.nd rfl (.inl rfl))
      (pss_cons (ps_asg (pv 5) (pg_tupK (K := K) rfl rfl (pgs_cons (pg_name (i := 7) sc_gone.nd rfl (.inl rfl)) (pgs_cons (pg_name (i := 8) sc_gone.nd rfl (.inl rfl)) (pgs_cons (pg_name (i := 9) sc_gone.nd rfl (.inl rfl)) pgs_nil)))))
      (pss_one (ps_if (pt_cmpR (op_inU (K := K) rfl (hu_of hr)) (pv 8) (pv 2) (by rfl))
      (pss_one (ps_expr (pe_bmK (K := K) (id := "list.append") rfl (pe_bm PySem.F.plainAttrs_list PySem.F.slot_list_append PySem.F.type_list_append mt_append (pv 6) (pa_cons (pv 7) pa_nil)))))
      (pss_one (ps_if (PW.pt (pw_and (pt_val (pe_callO (ok_is_within (K := K) T) hr (by rfl) (pa_cons (pv 5) (pa_cons (pv 1) (pa_cons (pv 3) pa_nil))))) (pw_and1 (PW.pt (pw_or (pt_cmpR (op_neU (K := K) rfl hr.units) (pv 7) (pv 4) (nomark _)) (pw_or1 (pt_cmpR op_isU (pv 9) pe_non (nomark _))))))))
      (pss_one (ps_expr (pe_bmK (K := K) (id := "list.append") rfl (pe_bm PySem.F.plainAttrs_list PySem.F.slot_list_append PySem.F.type_list_append mt_append (pv 6) (pa_cons (pv 7) pa_nil)))))
      pss_nil))))))
      (pss_one (ps_ret (pv 6))))))), ?_⟩
  walk_at "yy"
  refine y_forL (xs := ws) (fun i σ H => ∃ (y5 : Option V), σ = [some (.ref a), some (.ref d), some (.ref u), some (.int h), some (wV (lastF t h (rs.take i))), y5, none, none, none, none] ∧ Sy e B H []) ⟨_, rfl, S⟩ (fun i σ H _ h => ?_) ?_ ?_
  · obtain ⟨_, _, S⟩ := h
    exact S.l hq
  · rintro i x σ H hx ⟨y5, rfl, S⟩
    obtain ⟨r, hr2, p, rfl, hp⟩ := pr_getL hr1 hx
    rw [last_step hr2]
    walk_at "yy"
    refine y_within S ⟨p, rfl, hp⟩ hd fun H' S' => ?_
    walk_at "yy"
    refine y_iteB (fun h1 => ?_) (fun h1 => ?_)
    · walk_at "yy"
      exact ⟨_, by rw [if_pos h1]; rfl, S'⟩
    · walk_at "yy"
      exact ⟨_, by rw [if_neg (by rw [h1]; decide)]; rfl, S'⟩
  rintro σ H ⟨y5, rfl, S⟩
  rw [List.take_of_length_le (by omega)]
  walk_at "yy"
  refine y_newM S fun l H1 hl S1 => ?_
  walk_at "yy"
  refine y_forL (xs := ws) (fun i σ H => ∃ (y5 y7 y8 y9 : Option V), σ = [some (.ref a), some (.ref d), some (.ref u), some (.int h), some (wV (lastF t h rs)), y5, some (.ref l), y7, y8, y9] ∧ Sy e B H [(l, .lst ((((rs.take i).filter (outF t lost h (lastF t h rs))).map (·.1)).map V.int))]) ⟨_, _, _, _, rfl, S1⟩ (fun i σ H _ h => ?_) ?_ ?_
  · obtain ⟨_, _, _, _, _, S⟩ := h
    exact S.l hq
  · rintro i x σ H hx ⟨y5, y7, y8, y9, rfl, S⟩
    obtain ⟨r, hr2, p, rfl, hp⟩ := pr_getL hr1 hx
    have hl9 : ((((rs.take i).filter (outF t lost h (lastF t h rs))).map (·.1)).map V.int).length ≤ 1000 := by
      rw [List.length_map, List.length_map]
      have h1 := List.length_filter_le (outF t lost h (lastF t h rs)) (rs.take i)
      have h2 : (rs.take i).length ≤ rs.length := by simp; omega
      omega
    rw [flt_step hr2]
    walk_at "yy"
    refine y_gtup (S.t hp) rfl ?_
    show gCons _ _ [V.int r.1, V.int r.2.1, wV r.2.2] _ _ _
    walk_at "yy"
    refine y_inI (S.l hu) ?_
    walk_at "yy"
    refine y_iteB (fun h1 => ?_) (fun h1 => ?_)
    · walk_at "yy"
      refine y_app0 S (lenLt (by omega)) fun H' S' => ?_
      walk_at "yy"
      exact ⟨_, _, _, _, rfl, by rw [if_pos (by unfold outF; rw [h1]; rfl), List.map_append]; exact S'⟩
    · walk_at "yy"
      refine y_within S ⟨p, rfl, hp⟩ hd fun H' S => ?_
      walk_at "yy"
      refine y_iteB (fun h2 => ?_) (fun h2 => ?_)
      · refine y_cutT (R := fun b H => b = (!decide (some r.1 = lastF t h rs) || r.2.2.isNone) ∧ Sy e B H [(l, .lst ((((rs.take i).filter (outF t lost h (lastF t h rs))).map (·.1)).map V.int))]) (fun Q' hQ => ?_) (fun b H hR => ?_)
        · walk_at "yy"
          refine y_neW ?_
          walk_at "yy"
          refine y_iteB (fun h3 => ?_) (fun h3 => ?_)
          · exact hQ _ _ ⟨by rw [h3]; rfl, S⟩
          · walk_at "yy"
            refine y_isW ?_
            walk_at "yy"
            exact hQ _ _ ⟨by rw [h3]; rfl, S⟩
        · obtain ⟨rfl, S⟩ := hR
          refine y_iteB (fun h3 => ?_) (fun h3 => ?_)
          · walk_at "yy"
            refine y_app0 S (lenLt (by omega)) fun H' S' => ?_
            walk_at "yy"
            exact ⟨_, _, _, _, rfl, by rw [if_pos (by unfold outF; rw [h1, h2, h3]; rfl), List.map_append]; exact S'⟩
          · walk_at "yy"
            exact ⟨_, _, _, _, rfl, by rw [if_neg (by unfold outF; rw [h1, h2, h3]; decide)]; exact S⟩
      · walk_at "yy"
        exact ⟨_, _, _, _, rfl, by rw [if_neg (by unfold outF; rw [h1, h2]; exact Bool.false_ne_true)]; exact S⟩
  · rintro σ H ⟨y5, y7, y8, y9, rfl, S⟩
    rw [List.take_of_length_le (by omega)] at S
    walk_at "yy"
    exact k l _ S
theorem y_gone {e : En} {B H : Hp} {L : Led} {Q : VK} {E : XK} {a d u : Addr} {h : Int} {ws : List V} {rs : List Ver} {t : Tab} {lost : List Int} (S : Sy e B H L) (hq : SqL K B a ws) (hr : RowsAt K B ws rs) (hl : rs.length ≤ 1000) (hd : B d = some (.dK (t.map enc))) (hu : SqL K B u (lost.map V.int))
    (k : ∀ l H', e.H l = none → Sy e B H' ((l, .lst ((goneF t lost h rs).map V.int)) :: L) → Q (.ref l) H') : spY (φ_gone K) [.ref a, .ref d, .ref u, .int h] H Q E :=
  y_sp0 S ⟨a, d, u, h, ws, rs, t, lost, rfl, rfl, hq, hr, hl, hd, hu, fun l H' T => k l H' (S.backN0 T).1 (S.backN0 T).2⟩
theorem okk_gone_3_horizon (T : Tx K mg) : OkN P w K mg base 2 "gone" ["chain", "places", "undone", "horizon"] 3 ["horizon"] (fun vs zs => vs ++ zs) (spY (φ_gone K)) :=
  OkN.of (fun vs zs => vs ++ zs) T.F_gone T.g_gone (fun r1 r2 => r1.append r2) (fun _ _ _ _ _ _ us ws hl hl2 => match us, ws, hl, hl2 with | [_, _, _], [_], _, _ => rfl) (fn_gone T)

/-! sweeps, in plain -/
theorem last_split {α : Type} {p : α → Bool} {x : α} : ∀ {rs : List α}, (rs.filter p).getLast? = some x → ∃ l1 l2, rs = l1 ++ x :: l2 ∧ p x = true ∧ ∀ y ∈ l2, p y = false := by
  intro rs
  induction rs with
  | nil => intro h; cases h
  | cons r rs ih =>
    intro h
    rw [List.filter_cons] at h
    by_cases e : rs.filter p = []
    · have hr : ∀ y ∈ rs, p y = false := fun y hy => by
        cases q : p y with
        | false => rfl
        | true => exact absurd (List.mem_filter.mpr ⟨hy, q⟩) (by rw [e]; simp)
      by_cases c : p r = true
      · rw [if_pos c, e] at h
        have : r = x := by simpa using h
        subst this
        exact ⟨[], rs, rfl, c, hr⟩
      · rw [if_neg c, e] at h
        cases h
    · have h2 : (rs.filter p).getLast? = some x := by
        by_cases c : p r = true
        · rw [if_pos c] at h
          rw [List.getLast?_cons] at h
          cases q : (rs.filter p).getLast? with
          | none => exact absurd (List.getLast?_eq_none_iff.mp q) e
          | some z => rw [q] at h; exact h
        · rw [if_neg c] at h
          exact h
      obtain ⟨l1, l2, e1, e2, e3⟩ := ih h2
      exact ⟨r :: l1, l2, by rw [e1]; rfl, e2, e3⟩
theorem last_of {α : Type} {p : α → Bool} {x : α} {rs l1 l2 : List α} (e : rs = l1 ++ x :: l2) (h1 : p x = true) (h2 : ∀ y ∈ l2, p y = false) : (rs.filter p).getLast? = some x := by
  have e2 : l2.filter p = [] := by
    rw [List.filter_eq_nil_iff]
    intro y hy
    rw [h2 y hy]
    decide
  rw [e, List.filter_append, List.filter_cons, if_pos h1, e2, List.getLast?_concat]
theorem last_none {α : Type} {p : α → Bool} {rs : List α} (h : ∀ y ∈ rs, p y = false) : (rs.filter p).getLast? = none := by
  have e2 : rs.filter p = [] := by
    rw [List.filter_eq_nil_iff]
    intro y hy
    rw [h y hy]
    decide
  rw [e2]
  rfl
theorem last_none' {α : Type} {p : α → Bool} {rs : List α} (h : (rs.filter p).getLast? = none) : ∀ y ∈ rs, p y = false := fun y hy => by
  cases q : p y with
  | false => rfl
  | true =>
    have := List.getLast?_eq_none_iff.mp h
    exact absurd (List.mem_filter.mpr ⟨hy, q⟩) (by rw [this]; simp)
theorem num_inj {rs : List Ver} (hup : (rs.map (·.1)).Pairwise (· < ·)) : ∀ a ∈ rs, ∀ b ∈ rs, a.1 = b.1 → a = b := by
  induction rs with
  | nil => intro a ha; cases ha
  | cons r rs ih =>
    rw [List.map_cons, List.pairwise_cons] at hup
    intro a ha b hb e
    rcases List.mem_cons.mp ha with h1 | h1 <;> rcases List.mem_cons.mp hb with h2 | h2
    · rw [h1, h2]
    · have := hup.1 b.1 (List.mem_map.mpr ⟨b, h2, rfl⟩)
      rw [h1] at e
      omega
    · have := hup.1 a.1 (List.mem_map.mpr ⟨a, h1, rfl⟩)
      rw [h2] at e
      omega
    · exact ih hup.2 a h1 b h2 e
/-- dealings one behind the other, places in that order -/
structure Hs (t : Tab) (lost : List Int) (rs : List Ver) : Prop where
  up : (rs.map (·.1)).Pairwise (· < ·)
  ord : (rs.map (·.2.1)).Pairwise (· ≤ ·)
  wr : ∀ r ∈ rs, 1 ≤ r.2.1
  mono : ∀ k k' p p', look t k = some p → look t k' = some p' → k ≤ k' → p ≤ p'
  dis : ∀ k ∈ lost, look t k = none
def goesF (t : Tab) (lost : List Int) (h : Int) (rs : List Ver) (r : Ver) : Bool := outF t lost h (lastF t h rs) r
def leftF (t : Tab) (lost : List Int) (h : Int) (rs : List Ver) : List Ver := rs.filter fun r => !goesF t lost h rs r
theorem gone_mem {t : Tab} {lost : List Int} {h : Int} {rs : List Ver} (hup : (rs.map (·.1)).Pairwise (· < ·)) {r : Ver} (hr : r ∈ rs) : decide (r.1 ∈ goneF t lost h rs) = goesF t lost h rs r := by
  rw [Bool.eq_iff_iff, decide_eq_true_iff]
  unfold goneF goesF
  rw [List.mem_map]
  constructor
  · rintro ⟨z, hz, e⟩
    obtain ⟨h1, h2⟩ := List.mem_filter.mp hz
    rw [← num_inj hup z h1 r hr e]
    exact h2
  · intro h1
    exact ⟨r, List.mem_filter.mpr ⟨hr, h1⟩, rfl⟩
def worthF (o : Option Ver) : Option Int := o.bind (·.2.2)
theorem left_flt {t : Tab} {lost : List Int} {h : Int} {rs : List Ver} (p : Ver → Bool) : (leftF t lost h rs).filter p = rs.filter fun r => p r && !goesF t lost h rs r := by
  unfold leftF
  rw [List.filter_filter]
theorem within_look {t : Tab} {h : Int} {r : Ver} (e : within t h r = true) : ∃ p, look t r.2.1 = some p ∧ p ≤ h := by
  unfold within at e
  cases q : look t r.2.1 with
  | none => rw [q] at e; cases e
  | some p => rw [q] at e; exact ⟨p, rfl, of_decide_eq_true e⟩
theorem look_within {t : Tab} {h p : Int} {r : Ver} (e : look t r.2.1 = some p) (l : p ≤ h) : within t h r = true := by
  unfold within
  rw [e]
  exact decide_eq_true l
theorem within_mono {t : Tab} {h h' : Int} {r : Ver} (e : within t h r = true) (l : h ≤ h') : within t h' r = true := by
  obtain ⟨p, h1, h2⟩ := within_look e
  exact look_within h1 (by omega)
section
variable {t : Tab} {lost : List Int} {rs : List Ver} (X : Hs t lost rs)
theorem Hs.nolost {h : Int} {r : Ver} (X : Hs t lost rs) (e : within t h r = true) : decide (r.2.1 ∈ lost) = false := by
  obtain ⟨p, h1, _⟩ := within_look e
  refine decide_eq_false fun hm => ?_
  rw [X.dis _ hm] at h1
  cases h1
theorem Hs.may0 {at_ : Int} {r : Ver} (X : Hs t lost rs) (hr : r ∈ rs) : mayF t at_ 0 r = within t at_ r := by
  have := X.wr r hr
  unfold mayF
  rw [decide_eq_false (by omega)]
  rfl
/-- a stand no earlier than the horizon sees the same worth -/
theorem Hs.alike0 {far at_ : Int} (X : Hs t lost rs) (hl : far ≤ at_) : worthF (seenF t at_ 0 rs) = worthF (seenF t at_ 0 (leftF t lost far rs)) := by
  unfold seenF
  rw [left_flt]
  cases q : (rs.filter (mayF t at_ 0)).getLast? with
  | none =>
    have h1 := last_none' q
    rw [last_none fun y hy => by rw [h1 y hy]; rfl]
  | some x =>
    obtain ⟨l1, l2, e1, e2, e3⟩ := last_split q
    have hx : x ∈ rs := by rw [e1]; simp
    by_cases c : goesF t lost far rs x = true
    · rw [X.may0 hx] at e2
      have c2 := c
      unfold goesF outF at c2
      rw [X.nolost e2] at c2
      rw [Bool.false_or, Bool.and_eq_true] at c2
      have hlast : lastF t far rs = some x.1 := by
        unfold lastF
        rw [last_of e1 c2.1 fun y hy => ?_]
        · rfl
        · cases z : within t far y with
          | false => rfl
          | true =>
            have h1 := e3 y hy
            rw [X.may0 (by rw [e1]; simp [hy]), within_mono z hl] at h1
            cases h1
      have hno : x.2.2 = none := by
        have := c2.2
        rw [hlast] at this
        simpa using this
      have h9 : worthF (some x) = none := hno
      rw [h9]
      rw [last_none fun y hy => ?_]
      · rfl
      · cases z : mayF t at_ 0 y with
        | false => rfl
        | true =>
          rw [X.may0 hy] at z
          rw [Bool.true_and, Bool.not_eq_false']
          rw [e1] at hy
          rcases List.mem_append.mp hy with h1 | h1
          · obtain ⟨p1, a1, a2⟩ := within_look z
            obtain ⟨p2, b1, b2⟩ := within_look c2.1
            have ho : y.2.1 ≤ x.2.1 ∧ y.1 < x.1 := by
              have o1 := X.ord
              have o2 := X.up
              rw [e1, List.map_append, List.pairwise_append] at o1 o2
              exact ⟨o1.2.2 _ (List.mem_map.mpr ⟨y, h1, rfl⟩) _ (by simp), o2.2.2 _ (List.mem_map.mpr ⟨y, h1, rfl⟩) _ (by simp)⟩
            have hw : within t far y = true := look_within a1 (by have := X.mono _ _ _ _ a1 b1 ho.1; omega)
            unfold goesF outF
            rw [hw, hlast, decide_eq_false (p := some y.1 = some x.1) (by intro h; have := Option.some.inj h; omega)]
            simp
          · rcases List.mem_cons.mp h1 with h1 | h1
            · rw [h1]; exact c
            · have h2 := e3 y h1
              rw [X.may0 (by rw [e1]; simp [h1]), z] at h2
              cases h2
    · rw [last_of e1 (by rw [e2, Bool.eq_false_iff.mpr c]; rfl) fun y hy => by rw [e3 y hy]; rfl]
/-- a dealing that is still open sees the same -/
theorem Hs.alikeW {far at_ who : Int} (X : Hs t lost rs) (hw : look t who = none) (hl : who ∉ lost) (ho : ∀ x, seenF t at_ who rs = some x → x.2.1 = who) : seenF t at_ who rs = seenF t at_ who (leftF t lost far rs) := by
  unfold seenF at ho ⊢
  rw [left_flt]
  cases q : (rs.filter (mayF t at_ who)).getLast? with
  | none =>
    have h1 := last_none' q
    rw [last_none fun y hy => by rw [h1 y hy]; rfl]
  | some x =>
    obtain ⟨l1, l2, e1, e2, e3⟩ := last_split q
    have h1 := ho x q
    have h2 : goesF t lost far rs x = false := by
      unfold goesF outF within
      rw [h1, hw, decide_eq_false hl]
      rfl
    rw [last_of e1 (by rw [e2, h2]; rfl) fun y hy => by rw [e3 y hy]; rfl]
theorem Hs.left_up {far : Int} (X : Hs t lost rs) : ((leftF t lost far rs).map (·.1)).Pairwise (· < ·) := by
  have := X.up
  rw [List.pairwise_map] at this ⊢
  exact List.Pairwise.filter _ this
/-- the newest stays, if it is beyond the horizon -/
theorem Hs.top {far q : Int} {f : Ver} (X : Hs t lost rs) (hf : newestF t rs = some f) (hq : look t f.2.1 = some q) (hl : far < q) : newestF t (leftF t lost far rs) = some f := by
  rcases newestF_spec rs X.up with ⟨e1, _⟩ | ⟨f1, q1, e1, h1, h2, h3⟩
  · rw [e1] at hf; cases hf
  · rw [hf] at e1
    cases e1
    rw [hq] at h2
    cases h2
    have hin : f ∈ leftF t lost far rs := by
      refine List.mem_filter.mpr ⟨h1, ?_⟩
      have a1 : within t far f = false := by
        unfold within
        rw [hq]
        exact decide_eq_false (by omega)
      have a2 : decide (f.2.1 ∈ lost) = false := decide_eq_false fun hm => by
        rw [X.dis _ hm] at hq
        cases hq
      unfold goesF outF
      rw [a1, a2]
      rfl
    rcases newestF_spec (leftF t lost far rs) X.left_up with ⟨_, e2⟩ | ⟨f2, q2, e2, g1, g2, g3⟩
    · rw [e2 f hin] at hq
      cases hq
    · have a1 := g3 f hin _ hq
      have a2 := h3 f2 (List.mem_filter.mp g1).1 _ g2
      have a3 := lex_anti a1 a2
      have a4 : f = f2 := num_inj X.up f h1 f2 (List.mem_filter.mp g1).1 (congrArg Prod.snd a3)
      rw [e2, a4]
/-- what is left is swept already -/
theorem Hs.again {far : Int} (X : Hs t lost rs) : goneF t lost far (leftF t lost far rs) = [] := by
  unfold goneF
  rw [List.map_eq_nil_iff, List.filter_eq_nil_iff]
  intro r hr
  obtain ⟨h1, h2⟩ := List.mem_filter.mp hr
  have h3 : goesF t lost far rs r = false := by simpa using h2
  have h4 := h3
  unfold goesF outF at h4
  rw [Bool.or_eq_false_iff] at h4
  unfold outF
  rw [h4.1]
  cases w : within t far r with
  | false => simp
  | true =>
    rw [w, Bool.true_and, Bool.or_eq_false_iff] at h4
    have h5 : some r.1 = lastF t far rs := by
      have := h4.2.1
      simpa using this
    have h6 : lastF t far (leftF t lost far rs) = some r.1 := by
      have h7 := h5
      unfold lastF at h7 ⊢
      rw [left_flt]
      cases q : (rs.filter (within t far)).getLast? with
      | none => rw [q] at h7; cases h7
      | some x =>
        rw [q] at h7
        obtain ⟨l1, l2, e1, e2, e3⟩ := last_split q
        have hx : r = x := num_inj X.up r h1 x (by rw [e1]; simp) (Option.some.inj h7)
        subst hx
        rw [last_of e1 (by rw [e2, h3]; rfl) fun y hy => by rw [e3 y hy]; rfl]
        rfl
    rw [h6, h4.2.2]
    simp
/-- a later horizon sweeps no less -/
theorem Hs.more {far far' n : Int} (X : Hs t lost rs) (hl : far ≤ far') (hn : n ∈ goneF t lost far rs) : n ∈ goneF t lost far' rs := by
  unfold goneF at hn ⊢
  obtain ⟨r, hr, e⟩ := List.mem_map.mp hn
  obtain ⟨h1, h2⟩ := List.mem_filter.mp hr
  refine List.mem_map.mpr ⟨r, List.mem_filter.mpr ⟨h1, ?_⟩, e⟩
  unfold outF at h2 ⊢
  rw [Bool.or_eq_true, Bool.and_eq_true] at h2
  rcases h2 with h2 | ⟨h2, h3⟩
  · rw [h2]
    rfl
  · rw [within_mono h2 hl]
    by_cases c : some r.1 = lastF t far' rs
    · have c2 : some r.1 = lastF t far rs := by
        have c1 := c
        unfold lastF at c1 ⊢
        cases q : (rs.filter (within t far')).getLast? with
        | none => rw [q] at c1; cases c1
        | some x =>
          rw [q] at c1
          obtain ⟨l1, l2, e1, e2, e3⟩ := last_split q
          have hx : r = x := num_inj X.up r h1 x (by rw [e1]; simp) (Option.some.inj c1)
          subst hx
          rw [last_of e1 h2 fun y hy => ?_]
          · rfl
          · cases z : within t far y with
            | false => rfl
            | true => have := e3 y hy; rw [within_mono z hl] at this; cases this
      rw [decide_eq_true c2] at h3
      have h4 : r.2.2.isNone = true := by simpa using h3
      rw [h4]
      simp
    · rw [decide_eq_false c]
      simp
end

theorem drop_enc (w : Int) : ∀ t : Tab, dropK (t.map enc) (.inl w) = (t.filter fun p => decide (p.1 ≠ w)).map enc := by
  intro t
  induction t with
  | nil => rfl
  | cons p t ih =>
    by_cases c : p.1 = w
    · rw [List.map_cons, List.filter_cons, if_neg (by simp [c])]
      rw [← ih]
      unfold dropK
      rw [List.filter_cons, if_neg (by simp [enc, c])]
    · rw [List.map_cons, List.filter_cons, if_pos (by simp [c]), List.map_cons]
      rw [← ih]
      unfold dropK
      rw [List.filter_cons, if_pos (by simp [enc, c])]
theorem look_flt (w k : Int) : ∀ t : Tab, look (t.filter fun p => decide (p.1 ≠ w)) k = if k = w then none else look t k := by
  intro t
  induction t with
  | nil => simp [look_nil]
  | cons p t ih =>
    rw [List.filter_cons, look_cons]
    by_cases c : p.1 = w
    · rw [if_neg (by simp [c]), ih]
      by_cases c2 : k = w
      · rw [if_pos c2, if_pos c2]
      · rw [if_neg c2, if_neg c2, if_neg (by omega)]
    · rw [if_pos (by simp [c]), look_cons, ih]
      by_cases c2 : p.1 = k
      · rw [if_pos c2, if_pos c2, if_neg (by omega)]
      · rw [if_neg c2, if_neg c2]
/-- a table that grows by the dealings' order -/
structure Grow (i : Int) (t : Tab) : Prop where
  nk : (t.map (·.1)).Nodup
  kb : ∀ k p, look t k = some p → 1 ≤ k ∧ k ≤ i
  vb : ∀ k p, look t k = some p → 1 ≤ p ∧ p ≤ t.length
  mono : ∀ k k' p p', look t k = some p → look t k' = some p' → k ≤ k' → p ≤ p'
theorem Grow.nil {i : Int} : Grow i [] := ⟨by simp, fun k p h => (by cases h), fun k p h => (by cases h), fun k k' p p' h => (by cases h)⟩
theorem Grow.mono' {i j : Int} {t : Tab} (h : Grow i t) (l : i ≤ j) : Grow j t := ⟨h.nk, fun k p e => ⟨(h.kb k p e).1, Int.le_trans (h.kb k p e).2 l⟩, h.vb, h.mono⟩
theorem look_snoc (k n v : Int) : ∀ t : Tab, look (t ++ [(n, v)]) k = (look t k).or (if n = k then some v else none) := by
  intro t
  induction t with
  | nil => rw [List.nil_append, look_cons, look_nil]; simp
  | cons p t ih =>
    rw [List.cons_append, look_cons, look_cons, ih]
    by_cases c : p.1 = k
    · rw [if_pos c, if_pos c]; rfl
    · rw [if_neg c, if_neg c]
theorem Grow.snoc {i : Int} {t : Tab} (h : Grow i t) (h0 : 0 ≤ i) : Grow (i + 1) (t ++ [(i + 1, (t.length : Int) + 1)]) := by
  have no : look t (i + 1) = none := by
    cases q : look t (i + 1) with
    | none => rfl
    | some p => have := h.kb _ _ q; omega
  have key : ∀ k p, look (t ++ [(i + 1, (t.length : Int) + 1)]) k = some p → look t k = some p ∨ (k = i + 1 ∧ p = t.length + 1) := by
    intro k p e
    rw [look_snoc] at e
    cases q : look t k with
    | some p' => rw [q] at e; exact .inl e
    | none =>
      rw [q] at e
      by_cases c : i + 1 = k
      · rw [if_pos c] at e
        exact .inr ⟨c.symm, (Option.some.inj e).symm⟩
      · rw [if_neg c] at e
        cases e
  refine ⟨?_, fun k p e => ?_, fun k p e => ?_, fun k k' p p' e e' l => ?_⟩
  · rw [List.map_append, List.nodup_append]
    refine ⟨h.nk, by simp, fun a ha b hb hab => ?_⟩
    have e1 : b = i + 1 := by simpa using hb
    exact look_none.mp no (by rw [← e1, ← hab]; exact ha)
  · rcases key k p e with e | ⟨e, _⟩
    · have := h.kb k p e
      omega
    · omega
  · rw [List.length_append, List.length_singleton]
    rcases key k p e with e | ⟨_, e⟩
    · have := h.vb k p e
      omega
    · omega
  · rcases key k p e with e | ⟨e, f⟩ <;> rcases key k' p' e' with e' | ⟨e', f'⟩
    · exact h.mono k k' p p' e e' l
    · have := h.vb k p e
      omega
    · have := h.kb k' p' e'
      omega
    · omega

/-! dealings in order, in plain (the table's growth: Grow of house5.p) -/
structure Od (i : Int) (t : Tab) (lost : List Int) (rs : List Ver) (cp : List (Option Int)) (least num : Int) : Prop where
  i0 : 0 ≤ i
  gr : Grow i t
  ch : ChOk i num rs
  n0 : 0 ≤ num
  ord : (rs.map (·.2.1)).Pairwise (· ≤ ·)
  lo : ∀ k ∈ lost, k ≤ i ∧ look t k = none
  cl : cp.length = t.length + 1
  l0 : 0 ≤ least
  l1 : least ≤ t.length
  sn : ∀ (m : Nat) w, least ≤ m → cp[m]? = some w → worthF (seenF t m 0 rs) = w
  tp : ∀ k q x w, look t k = some q → (rs.filter fun r => decide (r.2.1 = k)).getLast? = some x → cp[q.toNat]? = some w → x.2.2 = w
section
variable {i least num : Int} {t : Tab} {lost : List Int} {rs : List Ver} {cp : List (Option Int)}
theorem Od.hs (X : Od i t lost rs cp least num) : Hs t lost rs := ⟨X.ch.up, X.ord, fun r h => (X.ch.db r h).1, X.gr.mono, fun k hk => (X.lo k hk).2⟩
theorem Od.start : Od 0 [] [] [] [none] 0 0 :=
  ⟨by omega, .nil, .nil, by omega, by simp, fun k h => (by cases h), rfl, by omega, by simp, fun m w _ h => (match m, h with
    | 0, h => Option.some.inj h), fun k q x w h => (by cases h)⟩
theorem Od.no (X : Od i t lost rs cp least num) : look t (i + 1) = none := by
  cases q : look t (i + 1) with
  | none => rfl
  | some p => have := (X.gr.kb _ p q).2; omega
/-- the rows of one more dealing -/
structure Nw (i : Int) (rs nw : List Ver) (num : Int) (wo : Option Int) : Prop where
  ch : ChOk (i + 1) num (rs ++ nw)
  ord : ((rs ++ nw).map (·.2.1)).Pairwise (· ≤ ·)
  n0 : 0 ≤ num
  wr : ∀ r ∈ nw, r.2.1 = i + 1
  last : ∃ l x, nw = l ++ [x] ∧ x.2.2 = wo ∧ x.2.1 = i + 1
theorem flt_nil {α : Type} {p : α → Bool} {l : List α} (h : ∀ y ∈ l, p y = false) : l.filter p = [] := by
  rw [List.filter_eq_nil_iff]
  intro y hy
  rw [h y hy]
  decide
/-- its own sight -/
theorem Nw.own {nw : List Ver} {n2 at_ : Int} {wo : Option Int} (Y : Nw i rs nw n2 wo) : ∃ x, seenF t at_ (i + 1) (rs ++ nw) = some x ∧ x.2.2 = wo ∧ x.2.1 = i + 1 := by
  obtain ⟨l, x, e, e1, e2⟩ := Y.last
  refine ⟨x, ?_, e1, e2⟩
  exact last_of (l1 := rs ++ l) (l2 := []) (by rw [e, List.append_assoc]) (by unfold mayF; rw [decide_eq_true e2]; rfl) (fun y hy => by cases hy)
theorem Od.lost1 {nw : List Ver} {n2 : Int} {wo : Option Int} (X : Od i t lost rs cp least num) (Y : Nw i rs nw n2 wo) : Od (i + 1) t (lost ++ [i + 1]) (rs ++ nw) cp least n2 := by
  have hi := X.i0
  refine ⟨by omega, X.gr.mono' (by omega), Y.ch, Y.n0, Y.ord, fun k hk => ?_, X.cl, X.l0, X.l1, fun m w h1 h2 => ?_, fun k q x w h1 h2 h3 => ?_⟩
  · rcases List.mem_append.mp hk with hk | hk
    · have := X.lo k hk
      exact ⟨by omega, this.2⟩
    · have : k = i + 1 := by simpa using hk
      rw [this]
      exact ⟨by omega, X.no⟩
  · rw [← X.sn m w h1 h2]
    unfold seenF
    rw [List.filter_append, flt_nil (l := nw) fun y hy => ?_, List.append_nil]
    unfold mayF within
    rw [Y.wr y hy, X.no, decide_eq_false (by omega)]
    rfl
  · refine X.tp k q x w h1 ?_ h3
    rw [List.filter_append, flt_nil (l := nw) fun y hy => ?_, List.append_nil] at h2
    · exact h2
    · have := (X.gr.kb k q h1).2
      exact decide_eq_false (by rw [Y.wr y hy]; omega)
theorem Od.kept1 {nw : List Ver} {n2 : Int} {wo : Option Int} (X : Od i t lost rs cp least num) (Y : Nw i rs nw n2 wo) : Od (i + 1) (t ++ [(i + 1, (t.length : Int) + 1)]) lost (rs ++ nw) (cp ++ [wo]) least n2 := by
  have hi := X.i0
  have hcl := X.cl
  have lk : ∀ k, k ≠ i + 1 → look (t ++ [(i + 1, (t.length : Int) + 1)]) k = look t k := fun k hk => by
    rw [look_snoc, if_neg (fun h => hk h.symm)]
    cases look t k <;> rfl
  have lk1 : look (t ++ [(i + 1, (t.length : Int) + 1)]) (i + 1) = some ((t.length : Int) + 1) := by
    rw [look_snoc, X.no, if_pos rfl]
    rfl
  have wold : ∀ r ∈ rs, r.2.1 ≠ i + 1 := fun r hr => by have := (X.ch.db r hr).2; omega
  have hlen : (t ++ [(i + 1, (t.length : Int) + 1)]).length = t.length + 1 := by simp
  obtain ⟨l, x1, e, e1, e2⟩ := Y.last
  refine ⟨by omega, X.gr.snoc hi, Y.ch, Y.n0, Y.ord, fun k hk => ?_, by rw [hlen]; simp [hcl], X.l0, by rw [hlen]; have := X.l1; omega, fun m w h1 h2 => ?_, fun k q x w h1 h2 h3 => ?_⟩
  · have := X.lo k hk
    refine ⟨by omega, ?_⟩
    rw [lk k (by omega)]
    exact this.2
  · by_cases c : m < cp.length
    · rw [List.getElem?_append_left c] at h2
      rw [← X.sn m w h1 h2]
      unfold seenF
      rw [List.filter_append, flt_nil (l := nw) fun y hy => ?_, List.append_nil]
      · congr 2
        refine List.filter_congr fun r hr => ?_
        unfold mayF within
        rw [lk _ (wold r hr)]
      · unfold mayF within
        rw [Y.wr y hy, lk1, decide_eq_false (by omega)]
        exact decide_eq_false (by omega)
    · have hm : m = cp.length := by
        have h9 : m < (cp ++ [wo]).length := (List.getElem?_eq_some_iff.mp h2).1
        rw [List.length_append, List.length_singleton] at h9
        omega
      subst hm
      rw [List.getElem?_append_right (Nat.le_refl _)] at h2
      have hw : wo = w := by simpa using h2
      subst hw
      have : seenF (t ++ [(i + 1, (t.length : Int) + 1)]) (cp.length : Int) 0 (rs ++ nw) = some x1 :=
        last_of (l1 := rs ++ l) (l2 := []) (by rw [e, List.append_assoc]) (by
          unfold mayF within
          rw [e2, lk1]
          rw [Bool.or_eq_true]
          exact .inr (decide_eq_true (by omega))) (fun y hy => by cases hy)
      rw [this]
      exact e1
  · by_cases c : k = i + 1
    · subst c
      rw [lk1] at h1
      cases h1
      have hx : x = x1 := by
        have : ((rs ++ nw).filter fun r => decide (r.2.1 = i + 1)).getLast? = some x1 := last_of (l1 := rs ++ l) (l2 := []) (by rw [e, List.append_assoc]) (decide_eq_true e2) (fun y hy => by cases hy)
        rw [this] at h2
        exact (Option.some.inj h2).symm
      rw [hx, e1]
      have h5 : ((t.length : Int) + 1).toNat = cp.length := by omega
      rw [h5, List.getElem?_append_right (Nat.le_refl _)] at h3
      simpa using h3
    · rw [lk k c] at h1
      have hv := X.gr.vb k q h1
      rw [List.getElem?_append_left (by omega)] at h3
      refine X.tp k q x w h1 ?_ h3
      rw [List.filter_append, flt_nil (l := nw) fun y hy => decide_eq_false (by rw [Y.wr y hy]; omega), List.append_nil] at h2
      exact h2
theorem Od.sweep {l2 : Int} (X : Od i t lost rs cp least num) (h1 : least ≤ l2) (h2 : l2 ≤ t.length) : Od i t lost (leftF t lost l2 rs) cp l2 num := by
  have hs := X.hs
  have h0 := X.l0
  have sub : ∀ r, r ∈ leftF t lost l2 rs → r ∈ rs := fun r h => (List.mem_filter.mp h).1
  refine ⟨X.i0, X.gr, ⟨hs.left_up, fun r h => X.ch.nb r (sub r h), fun r h => X.ch.db r (sub r h)⟩, X.n0, ?_, X.lo, X.cl, by omega, h2, fun m w a1 a2 => ?_, fun k q x w a1 a2 a3 => ?_⟩
  · have := X.ord
    rw [List.pairwise_map] at this ⊢
    exact List.Pairwise.filter _ this
  · rw [← X.sn m w (by omega) a2]
    exact (hs.alike0 a1).symm
  · rw [left_flt] at a2
    obtain ⟨la, lb, e1, e2, e3⟩ := last_split a2
    rw [Bool.and_eq_true] at e2
    have hk : x.2.1 = k := of_decide_eq_true e2.1
    have hx : x ∈ rs := by rw [e1]; simp
    cases z : (rs.filter fun r => decide (r.2.1 = k)).getLast? with
    | none =>
      have := last_none' z x hx
      rw [e2.1] at this
      cases this
    | some y =>
      have hy := X.tp k q y w a1 z a3
      obtain ⟨lc, ld, f1, f2, f3⟩ := last_split z
      have hyk : y.2.1 = k := of_decide_eq_true f2
      have hyr : y ∈ rs := by rw [f1]; simp
      by_cases c : goesF t lost l2 rs y = true
      · exfalso
        have hnl : decide (y.2.1 ∈ lost) = false := decide_eq_false fun hm => by
          rw [hyk] at hm
          rw [(X.lo k hm).2] at a1
          cases a1
        unfold goesF outF at c
        rw [hnl, Bool.false_or, Bool.and_eq_true] at c
        have hw : within t l2 x = true := by
          obtain ⟨p, b1, b2⟩ := within_look c.1
          exact look_within (by rw [hk, ← hyk]; exact b1) b2
        have hg : goesF t lost l2 rs x = false := by simpa using e2.2
        unfold goesF outF at hg
        rw [hw, Bool.true_and, Bool.or_eq_false_iff, Bool.or_eq_false_iff] at hg
        have hlast : some x.1 = lastF t l2 rs := by simpa using hg.2.1
        unfold lastF at hlast
        cases q2 : (rs.filter (within t l2)).getLast? with
        | none => rw [q2] at hlast; cases hlast
        | some x2 =>
          rw [q2] at hlast
          have hx2 : x = x2 := num_inj hs.up x hx x2 (by obtain ⟨u1, u2, u3, _, _⟩ := last_split q2; rw [u3]; simp) (Option.some.inj hlast)
          subst hx2
          have hlf : lastF t l2 rs = some x.1 := by unfold lastF; rw [q2]; rfl
          have hne : y ≠ x := fun h => by
            have c2 := c.2
            rw [h, hlf, hg.2.2] at c2
            simp at c2
          obtain ⟨u1, u2, u3, _, u5⟩ := last_split q2
          rw [u3] at hyr
          rcases List.mem_append.mp hyr with h | h
          · -- y is ahead of x: but y is the last of k
            rw [f1] at hx
            have o2 := hs.up
            have l1 : y.1 < x.1 := by
              rw [u3, List.map_append, List.pairwise_append] at o2
              exact o2.2.2 _ (List.mem_map.mpr ⟨y, h, rfl⟩) _ (by simp)
            have o3 := hs.up
            rw [f1, List.map_append, List.pairwise_append, List.map_cons, List.pairwise_cons] at o3
            rcases List.mem_append.mp hx with g | g
            · have := o3.2.2 _ (List.mem_map.mpr ⟨x, g, rfl⟩) _ (by simp : y.1 ∈ _)
              omega
            · rcases List.mem_cons.mp g with g | g
              · exact hne g.symm
              · have := f3 x g
                rw [decide_eq_true hk] at this
                cases this
          · rcases List.mem_cons.mp h with h | h
            · exact hne h
            · have := u5 y h
              rw [c.1] at this
              cases this
      · have hyx : x = y := by
          have hlast := last_of (p := fun r => decide (r.2.1 = k) && !goesF t lost l2 rs r) f1 (by rw [f2, Bool.eq_false_iff.mpr c]; rfl) (fun w hw => by rw [f3 w hw]; rfl)
          rw [hlast] at a2
          exact (Option.some.inj a2).symm
        rw [hyx]
        exact hy
/-- the newest is the last one that has a place -/
theorem Od.top (X : Od i t lost rs cp least num) {f : Ver} {q : Int} {w : Option Int} (hf : newestF t rs = some f) (hq : look t f.2.1 = some q) (hw : cp[q.toNat]? = some w) : f.2.2 = w := by
  refine X.tp f.2.1 q f w hq ?_ hw
  have hs := X.hs
  rcases newestF_spec rs hs.up with ⟨e1, _⟩ | ⟨f1, q1, e1, h1, h2, h3⟩
  · rw [e1] at hf; cases hf
  · rw [hf] at e1
    cases e1
    rw [hq] at h2
    cases h2
    obtain ⟨la, lb, e⟩ := List.append_of_mem h1
    refine last_of e (decide_eq_true rfl) fun y hy => decide_eq_false fun h => ?_
    have hl := h3 y (by rw [e]; simp [hy]) q (by rw [h]; exact hq)
    have o2 := hs.up
    rw [e, List.map_append, List.pairwise_append, List.map_cons, List.pairwise_cons] at o2
    have := o2.2.1.1 _ (List.mem_map.mpr ⟨y, hy, rfl⟩)
    rcases hl with hl | ⟨_, hl⟩
    · exact Int.lt_irrefl _ hl
    · have hl : y.1 ≤ f.1 := hl
      omega
theorem Od.topN (X : Od i t lost rs cp least num) (hf : newestF t rs = none) {w : Option Int} (hw : cp[t.length]? = some w) : w = none := by
  have hs := X.hs
  rw [← X.sn t.length w X.l1 hw]
  rcases newestF_spec rs hs.up with ⟨_, h⟩ | ⟨f1, q1, e1, _⟩
  · unfold seenF
    rw [last_none fun y hy => ?_]
    · rfl
    · rw [hs.may0 hy]
      unfold within
      rw [h y hy]
  · rw [e1] at hf; cases hf
end

theorem y_notInI {K : PySem.W.Frag} {H : Hp} {Q : VK} {a : Addr} {ns : List Int} {k : Int} (h : SqL K H a (ns.map V.int)) (q : Q (.bl (!decide (k ∈ ns))) H) : rNotInU K (.int k) (.ref a) H Q := y_notInL h rfl flat_ints (by rw [inV_ints]; exact q)
theorem left_eq {t : Tab} {lost : List Int} {h : Int} {rs : List Ver} (hup : (rs.map (·.1)).Pairwise (· < ·)) : rs.filter (fun r : Ver => !decide (r.1 ∈ goneF t lost h rs)) = leftF t lost h rs :=
  List.filter_congr fun r hr => by rw [gone_mem hup hr]
theorem Sy.rot5 {e : En} {B H : Hp} {q1 q2 q3 q4 q5 : Addr × HO} {L : Led} (S : Sy e B H (q1 :: q2 :: q3 :: q4 :: q5 :: L)) : Sy e B H (q5 :: q1 :: q2 :: q3 :: q4 :: L) := by
  refine S.perm ?_
  exact (List.perm_middle (a := q5) (l₁ := [q1, q2, q3, q4]) (l₂ := L))
theorem Sy.unrot5 {e : En} {B H : Hp} {q1 q2 q3 q4 q5 : Addr × HO} {L : Led} (S : Sy e B H (q5 :: q1 :: q2 :: q3 :: q4 :: L)) : Sy e B H (q1 :: q2 :: q3 :: q4 :: q5 :: L) := by
  refine S.perm ?_
  exact (List.perm_middle (a := q5) (l₁ := [q1, q2, q3, q4]) (l₂ := L)).symm
theorem y_app4 {e : En} {B H : Hp} {Q : VK} {xs : List V} {v : V} {l : Addr} {q1 q2 q3 q4 : Addr × HO} {L : Led} (S : Sy e B H (q1 :: q2 :: q3 :: q4 :: (l, .lst xs) :: L)) (hl : xs.length < sizeLine) (k : ∀ H', Sy e B H' (q1 :: q2 :: q3 :: q4 :: (l, .lst (xs ++ [v])) :: L) → Q .non H') : rAppend (.ref l) [v] H Q :=
  y_app0 (Sy.rot5 S) hl fun H' S' => k H' (Sy.unrot5 S')
theorem OptAt.less {K : PySem.W.Frag} {e : En} {B B' H : Hp} {L : Led} {v : V} {o : Option Ver} (S : Sy e B H L) (hf : Flat L) (b : Same (over B L) B') (h : OptAt K B' v o) : OptAt K (Y.less B' L) v o := by
  cases o with
  | none => exact h
  | some r =>
    obtain ⟨p, e1, hp⟩ := h
    exact ⟨p, e1, less_t S hf b hp⟩
theorem y_seenL {e : En} {B H : Hp} {L : Led} {Q : VK} {E : XK} {a d : Addr} {st who : Int} {ws : List V} {rs : List Ver} {t : Tab} (S : Sy e B H L) (hf : Flat L) (hq : (a, .lst ws) ∈ L) (hr : RowsAt K B ws rs) (hd : (d, .dK (t.map enc)) ∈ L)
    (k : ∀ v B' H', Same B B' → OptAt K B' v (seenF t st who rs) → Sy e B' H' L → Q v H') : spY (φ_seen K) [.ref a, .ref d, .int st, .int who] H Q E :=
  ⟨over B L, [], S.lendHand, a, d, st, who, ws, rs, t, rfl, rfl, sqL (S.ov hq), RowsAt.up S.toOver hr, S.ov hd, fun v hv H' T => k v _ H' (S.lendBack T).1 (OptAt.less S hf T.b0 hv) (S.lendBack T).2.1⟩
theorem y_newestL {e : En} {B H : Hp} {L : Led} {Q : VK} {E : XK} {a d : Addr} {ws : List V} {rs : List Ver} {t : Tab} (S : Sy e B H L) (hf : Flat L) (hq : (a, .lst ws) ∈ L) (hr : RowsAt K B ws rs) (hd : (d, .dK (t.map enc)) ∈ L)
    (k : ∀ v B' H', Same B B' → OptAt K B' v (newestF t rs) → Sy e B' H' L → Q v H') : spY (φ_newest K) [.ref a, .ref d] H Q E :=
  ⟨over B L, [], S.lendHand, a, d, ws, rs, t, rfl, rfl, sqL (S.ov hq), RowsAt.up S.toOver hr, S.ov hd, fun v hv H' T => k v _ H' (S.lendBack T).1 (OptAt.less S hf T.b0 hv) (S.lendBack T).2.1⟩
theorem y_goneL {e : En} {B H : Hp} {L : Led} {Q : VK} {E : XK} {a d u : Addr} {h : Int} {ws : List V} {rs : List Ver} {t : Tab} {lost : List Int} (S : Sy e B H L) (hq : (a, .lst ws) ∈ L) (hr : RowsAt K B ws rs) (hl : rs.length ≤ 1000) (hd : (d, .dK (t.map enc)) ∈ L) (hu : (u, .lst (lost.map V.int)) ∈ L)
    (k : ∀ l B' H', Same B B' → e.H l = none → Sy e B' H' ((l, .lst ((goneF t lost h rs).map V.int)) :: L) → Q (.ref l) H') : spY (φ_gone K) [.ref a, .ref d, .ref u, .int h] H Q E :=
  ⟨over B L, [], S.lendHand, a, d, u, h, ws, rs, t, lost, rfl, rfl, sqL (S.ov hq), RowsAt.up S.toOver hr, hl, S.ov hd, sqL (S.ov hu), fun l H' T => k l _ H' (S.lendBack T).1 ((S.lendBack T).2.2 _ List.mem_cons_self) (S.lendBack T).2.1⟩
theorem flat5 {b r d u c : Addr} {o : HO} {n : Nat} {ws xs ys : List V} {kvs : List (Key × V)} (hb : Bag n o) : Flat [(b, o), (r, .lst ws), (d, .dK kvs), (u, .lst xs), (c, .lst ys)] := by
  intro p hp
  obtain ⟨x, y, z, rfl, _⟩ := hb
  simp only [List.mem_cons, List.not_mem_nil, or_false] at hp
  rcases hp with rfl | rfl | rfl | rfl | rfl
  · exact .inl ⟨_, rfl⟩
  · exact .inl ⟨_, rfl⟩
  · exact .inr ⟨_, rfl⟩
  · exact .inl ⟨_, rfl⟩
  · exact .inl ⟨_, rfl⟩
theorem y_neWW {K : PySem.W.Frag} {H : Hp} {Q : VK} {o : Option Int} (q : Q (.bl false) H) : rNeU K (wV o) (wV o) H Q := by
  cases o with
  | none => exact .inl ⟨rfl, q⟩
  | some j =>
    refine y_neI ?_
    rw [decide_eq_true rfl]
    exact q
theorem fn_law (T : Tx K mg) (fd : FuncData) (F : FunD K "law" "law" (defArgs s_law) (defBody s_law) (defScope s_law) [] [] (He.ga K "law") fd) : FnOk P w K mg base CX0 3 (He.ga K "law") fd ["script"] (spY (φ_law K)) := by
  refine fnY F sc_law (fun B vs L k h => by obtain ⟨_, _, rfl, _⟩ := h; rfl) (fun cdv A outer s H vs Q E B L e hz he hr S h => ?_)
  obtain ⟨a, ns, rfl, rfl, hq, hlen, k⟩ := h
  refine ⟨_, (pss_cons (ps_for PassesOwn.never rfl (pi_range1 (by rfl) T.n_range (pa_cons (pe_callB (call_max2U rfl) (by rfl) T.n_max (by decide +kernel) (pa_cons pe_int (pa_cons (pe_callB (call_min2U rfl) (by rfl) T.n_min (by decide +kernel) (pa_cons pe_int (pa_cons (pe_callB (call_lenU (K := K) rfl) (by rfl) T.n_len (by decide +kernel) (pa_cons (pv 0) pa_nil)) pa_nil))) pa_nil))) pa_nil)) (pg_name (i := 1) sc_law.nd rfl (.inl rfl))
      (pss_cons (ps_set (i := 2) sc_law.nd rfl (.inl rfl) (pe_callO (ok_l_bag (K := K) T) (hr.mono (by decide)) (by rfl) (pa_cons (pe_callO (ok_l_cell_at (K := K) T) (hr.mono (by decide)) (by rfl) (pa_cons (pv 0) (pa_cons (pv 1) pa_nil))) (pa_cons (pv 1) pa_nil))))
      (pss_cons (ps_set (i := 3) sc_law.nd rfl (.inl rfl) (pe_lst pa_nil))
      (pss_cons (ps_set (i := 4) sc_law.nd rfl (.inl rfl) pe_dnewK)
      (pss_cons (ps_set (i := 5) sc_law.nd rfl (.inl rfl) (pe_lst pa_nil))
      (pss_cons (ps_set (i := 6) sc_law.nd rfl (.inl rfl) (pe_lst (pa_cons pe_non pa_nil)))
      (pss_cons (ps_set (i := 7) sc_law.nd rfl (.inl rfl) pe_int)
      (pss_cons (ps_set (i := 8) sc_law.nd rfl (.inl rfl) pe_int)
      (pss_one (ps_for PassesOwn.never rfl (pi_range2 (by rfl) T.n_range (pa_cons pe_int (pa_cons (pe_op (op_addU (K := K) rfl) pe_int (pe_callO (ok_l_draw (K := K) T) (hr.mono (by decide)) (by rfl) (pa_cons (pv 2) (pa_cons pe_int pa_nil)))) pa_nil))) (pg_name (i := 9) sc_law.nd rfl (.inl rfl))
      (pss_cons (ps_set (i := 10) sc_law.nd rfl (.inl rfl) pe_non)
      (pss_cons (ps_for PassesOwn.never rfl (pi_range1 (by rfl) T.n_range (pa_cons (pe_op (op_addU (K := K) rfl) pe_int (pe_callO (ok_l_draw (K := K) T) (hr.mono (by decide)) (by rfl) (pa_cons (pv 2) (pa_cons pe_int pa_nil)))) pa_nil)) (pg_name (i := 11) sc_law.nd rfl (.inl rfl))
      (pss_cons (ps_set (i := 8) sc_law.nd rfl (.inl rfl) (pe_op (op_addU (K := K) rfl) (pe_op (op_addU (K := K) rfl) (pv 8) pe_int) (pe_callO (ok_l_draw (K := K) T) (hr.mono (by decide)) (by rfl) (pa_cons (pv 2) (pa_cons pe_int pa_nil)))))
      (pss_cons (ps_set (i := 10) sc_law.nd rfl (.inl rfl) (pe_ix (ix_U (K := K) rfl (hu_of hr)) (pe_lst (pa_cons (pe_callO (ok_l_draw (K := K) T) (hr.mono (by decide)) (by rfl) (pa_cons (pv 2) (pa_cons pe_int pa_nil))) (pa_cons pe_non (pa_cons (pe_op op_subU pe_int (pv 8)) pa_nil)))) (pe_callO (ok_l_draw (K := K) T) (hr.mono (by decide)) (by rfl) (pa_cons (pv 2) (pa_cons pe_int pa_nil))) (fun _ _ => rfl)))
      (pss_one (ps_expr (pe_bmK (K := K) (id := "list.append") rfl (pe_bm PySem.F.plainAttrs_list PySem.F.slot_list_append PySem.F.type_list_append mt_append (pv 3) (pa_cons (pe_tup (pa_cons (pv 8) (pa_cons (pv 9) (pa_cons (pv 10) pa_nil)))) pa_nil))))))))
      (pss_cons (ps_set (i := 12) sc_law.nd rfl (.inl rfl) (pe_callO (ok_seen (K := K) T) hr (by rfl) (pa_cons (pv 3) (pa_cons (pv 4) (pa_cons (pe_callB (call_lenU (K := K) rfl) (by rfl) T.n_len (by decide +kernel) (pa_cons (pv 4) pa_nil)) (pa_cons (pv 9) pa_nil))))))
      (pss_cons (ps_if (PW.pt (pw_or (pt_cmpR op_isU (pv 12) pe_non (nomark _)) (pw_or (pt_cmpR (op_neU (K := K) rfl hr.units) (pe_ix (ix_U (K := K) rfl (hu_of hr)) (pv 12) pe_int (fun _ _ => rfl)) (pv 10) (nomark _)) (pw_or1 (pt_cmpR (op_neU (K := K) rfl hr.units) (pe_ix (ix_U (K := K) rfl (hu_of hr)) (pv 12) pe_int (fun _ _ => rfl)) (pv 9) (nomark _))))))
      (pss_one (ps_ret pe_bl))
      pss_nil)
      (pss_cons (ps_if (pt_cmpR (op_eqU (K := K) rfl hr.units) (pe_callO (ok_l_draw (K := K) T) (hr.mono (by decide)) (by rfl) (pa_cons (pv 2) (pa_cons pe_int pa_nil))) pe_int (nomark _))
      (pss_one (ps_expr (pe_bmK (K := K) (id := "list.append") rfl (pe_bm PySem.F.plainAttrs_list PySem.F.slot_list_append PySem.F.type_list_append mt_append (pv 5) (pa_cons (pv 9) pa_nil)))))
      (pss_cons (ps_asg (pe_op (op_addU (K := K) rfl) (pe_callB (call_lenU (K := K) rfl) (by rfl) T.n_len (by decide +kernel) (pa_cons (pv 4) pa_nil)) pe_int) (pg_sub (pv 4) (pv 9) (set_U (hu_of hr))))
      (pss_one (ps_expr (pe_bmK (K := K) (id := "list.append") rfl (pe_bm PySem.F.plainAttrs_list PySem.F.slot_list_append PySem.F.type_list_append mt_append (pv 6) (pa_cons (pv 10) pa_nil)))))))
      (pss_cons (ps_if (pt_cmpR (op_eqU (K := K) rfl hr.units) (pe_callO (ok_l_draw (K := K) T) (hr.mono (by decide)) (by rfl) (pa_cons (pv 2) (pa_cons pe_int pa_nil))) pe_int (nomark _))
      (pss_cons (ps_set (i := 7) sc_law.nd rfl (.inl rfl) (pe_op (op_addU (K := K) rfl) (pv 7) (pe_callO (ok_l_draw (K := K) T) (hr.mono (by decide)) (by rfl) (pa_cons (pv 2) (pa_cons (pe_op (op_addU (K := K) rfl) (pe_op op_subU (pe_callB (call_lenU (K := K) rfl) (by rfl) T.n_len (by decide +kernel) (pa_cons (pv 4) pa_nil)) (pv 7)) pe_int) pa_nil)))))
      (pss_cons (ps_set (i := 13) sc_law.nd rfl (.inr rfl) (pe_callON (okk_gone_3_horizon (K := K) T) hr (by rfl) (pa_cons (pv 3) (pa_cons (pv 4) (pa_cons (pv 5) pa_nil))) (pk_cons (pv 7) pk_nil)))
      (pss_one (ps_setLc (i := 3) (own := [("row", 16)]) (by rfl) sc_law.nd rfl rfl (sw_true rfl rfl rfl (by decide +kernel)) (pi_listK (K := K) rfl (pv 3)) (blkOk_by (own := [("row", 16)]) (N := ["script", "k", "bag", "rows", "table", "lost", "copies", "least", "number", "one", "worth", "j", "found", "out", "at", "top", "row"]) (sc := defScope s_law) (by decide +kernel)) (fun _ _ _ _ _ => (pg_name (i := 16) sc_law.nd rfl (.inl rfl))) (fun _ _ _ _ _ => (pts_one (pt_cmpR (op_notInU (K := K) rfl (hu_of hr)) (pe_ix (ix_U (K := K) rfl (hu_of hr)) (pv 16) pe_int (fun _ _ => rfl)) (pv 13) (by rfl)))) (fun _ _ _ _ _ => (pv 16))))))
      pss_nil)
      (pss_cons (ps_for PassesOwn.never rfl (pi_range2 (by rfl) T.n_range (pa_cons (pv 7) (pa_cons (pe_op (op_addU (K := K) rfl) (pe_callB (call_lenU (K := K) rfl) (by rfl) T.n_len (by decide +kernel) (pa_cons (pv 4) pa_nil)) pe_int) pa_nil))) (pg_name (i := 14) sc_law.nd rfl (.inl rfl))
      (pss_cons (ps_set (i := 12) sc_law.nd rfl (.inl rfl) (pe_callOD (okd_seen_3 (K := K) T) hr (by rfl) (pa_cons (pv 3) (pa_cons (pv 4) (pa_cons (pv 14) pa_nil)))))
      (pss_one (ps_if (pt_cmpR (op_neU (K := K) rfl hr.units) (pe_ifExp (pt_cmpR op_isU (pv 12) pe_non (nomark _)) pe_non (pe_ix (ix_U (K := K) rfl (hu_of hr)) (pv 12) pe_int (fun _ _ => rfl))) (pe_ix (ix_U (K := K) rfl (hu_of hr)) (pv 6) (pv 14) (fun _ _ => rfl)) (nomark _))
      (pss_one (ps_ret pe_bl))
      pss_nil))))
      (pss_cons (ps_set (i := 15) sc_law.nd rfl (.inl rfl) (pe_callO (ok_newest (K := K) T) (hr.mono (by decide)) (by rfl) (pa_cons (pv 3) (pa_cons (pv 4) pa_nil))))
      (pss_one (ps_if (PW.pt (pw_or (PW.pt (pw_and (pt_cmpR op_isnotU (pv 15) pe_non (nomark _)) (pw_and1 (pt_cmpR (op_neU (K := K) rfl hr.units) (pe_ix (ix_U (K := K) rfl (hu_of hr)) (pv 15) pe_int (fun _ _ => rfl)) (pe_ix (ix_U (K := K) rfl (hu_of hr)) (pv 6) (pe_ix (ix_U (K := K) rfl (hu_of hr)) (pv 4) (pe_ix (ix_U (K := K) rfl (hu_of hr)) (pv 15) pe_int (fun _ _ => rfl)) (fun _ _ => rfl)) (fun _ _ => rfl)) (nomark _))))) (pw_or1 (PW.pt (pw_and (pt_cmpR op_isU (pv 15) pe_non (nomark _)) (pw_and1 (pt_cmpR op_isnotU (pe_ix (ix_U (K := K) rfl (hu_of hr)) (pv 6) (pe_un un_negU pe_int) (fun _ _ => rfl)) pe_non (nomark _))))))))
      (pss_one (ps_ret pe_bl))
      pss_nil))))))))))))))))))))
      (pss_one (ps_ret pe_bl))), ?_⟩
  walk_at "yy"
  rw [List.length_map]
  walk_at "yy"
  refine y_forR (fun i σ H => ∃ (B1 : Hp) (y1 y2 y3 y4 y5 y6 y7 y8 y9 y10 y11 y12 y13 y14 y15 y16 : Option V), σ = [some (.ref a), y1, y2, y3, y4, y5, y6, y7, y8, y9, y10, y11, y12, y13, y14, y15, y16] ∧ Sy e B1 H [] ∧ Same B B1) ⟨B, _, _, _, _, _, _, _, _, _, _, _, _, _, _, _, _, rfl, S, Same.refl _⟩ ?_ ?_
  · rintro i0 σ H ti ⟨B1, y1, y2, y3, y4, y5, y6, y7, y8, y9, y10, y11, y12, y13, y14, y15, y16, rfl, S, b1⟩
    walk_at "yn"
    refine y_cell S (up_l b1 hq) (by omega) fun c H1 S1 => ?_
    walk_at "yn"
    refine y_bag S1 (by omega) (by omega) fun b o H2 hb0 hb S2 => ?_
    walk_at "yn"
    refine y_newM1 S2 fun r H3 hr0 S3 => ?_
    walk_at "yn"
    refine y_newM1 S3 fun d H4 hd0 S4 => ?_
    walk_at "yn"
    refine y_newM1 S4 fun u H5 hu0 S5 => ?_
    walk_at "yn"
    refine y_newM1 S5 fun cc H6 hc0 S6 => ?_
    have S7 : Sy e B1 H6 [(b, o), (r, .lst []), (d, .dK []), (u, .lst []), (cc, .lst [.non])] := S6.perm (by
      refine List.Perm.cons _ ?_
      exact (List.reverse_perm [(r, HO.lst []), (d, .dK []), (u, .lst []), (cc, .lst [.non])]))
    walk_at "yn"
    refine y_draw S7 (n := 13 * 14 + 10) (hb.mono (by decide)) (by decide) (by decide) fun tn o1 H7 t0 t1 hb1 S8 => ?_
    walk_at "yn"
    refine y_forR (fun (i : Nat) σ H => ∃ (o : HO) (B2 : Hp) (r : Addr) (ws : List V) (rs : List Ver) (t : Tab) (los : List Int) (cp : List (Option Int)) (least num : Int) (y9 y10 y11 y12 y13 y14 y15 y16 : Option V), σ = [some (.ref a), some (.int (0 + (i0 : Int))), some (.ref b), some (.ref r), some (.ref d), some (.ref u), some (.ref cc), some (.int least), some (.int num), y9, y10, y11, y12, y13, y14, y15, y16] ∧
        Sy e B2 H [(b, o), (r, .lst ws), (d, .dK (t.map enc)), (u, .lst (los.map V.int)), (cc, .lst (cp.map wV))] ∧ Same B1 B2 ∧ Bag (13 * (14 - i) + 10) o ∧ RowsAt K B2 ws rs ∧ Od (i : Int) t los rs cp least num ∧ rs.length ≤ 3 * i ∧ t.length ≤ i ∧ los.length ≤ i)
      ⟨o1, B1, r, [], [], [], [], [none], 0, 0, _, _, _, _, _, _, _, _, rfl, S8, Same.refl _, hb1, .nil, Od.start, by simp, by simp, by simp⟩ ?_ ?_
    · rintro i σ H ti ⟨o, B2, r, ws, rs, t, los, cp, least, num, y9, y10, y11, y12, y13, y14, y15, y16, rfl, S, b2, hb, hrs, X, hrl, htl, hll⟩
      have ti : i < 12 := by omega
      walk_at "yn"
      refine y_draw S (n := 13 * (14 - (i + 1)) + 10 + 12) (hb.mono (by omega)) (by omega) (by omega) fun jn o1 H1 j0 j1 hb1 S1 => ?_
      walk_at "yn"
      refine y_forR (fun (j : Nat) σ H => ∃ (o : HO) (B3 : Hp) (ws : List V) (nw : List Ver) (num : Int) (wo : Option Int) (y11 : Option V), σ = [some (.ref a), some (.int (0 + (i0 : Int))), some (.ref b), some (.ref r), some (.ref d), some (.ref u), some (.ref cc), some (.int least), some (.int num), some (.int (1 + (i : Int))), some (wV wo), y11, y12, y13, y14, y15, y16] ∧
          Sy e B3 H [(b, o), (r, .lst ws), (d, .dK (t.map enc)), (u, .lst (los.map V.int)), (cc, .lst (cp.map wV))] ∧ Same B1 B3 ∧ Bag (13 * (14 - (i + 1)) + 10 + 3 + 3 * (3 - j)) o ∧ RowsAt K B3 ws (rs ++ nw) ∧ ChOk ((i : Int) + 1) num (rs ++ nw) ∧ ((rs ++ nw).map (·.2.1)).Pairwise (· ≤ ·) ∧ 0 ≤ num ∧ (∀ r ∈ nw, r.2.1 = (i : Int) + 1) ∧ nw.length = j ∧ (0 < j → ∃ l x, nw = l ++ [x] ∧ x.2.2 = wo ∧ x.2.1 = (i : Int) + 1))
        ⟨o1, B2, ws, [], num, none, _, rfl, S1, b2, hb1.mono (by omega), by rw [List.append_nil]; exact hrs, by rw [List.append_nil]; exact ⟨X.ch.up, X.ch.nb, fun r h => ⟨(X.ch.db r h).1, by have := (X.ch.db r h).2; omega⟩⟩, by rw [List.append_nil]; exact X.ord, X.n0, fun r h => (by cases h), rfl, fun h => absurd h (by omega)⟩ ?_ ?_
      · rintro j σ H tj ⟨o, B3, ws, nw, num, wo, y11, rfl, S, b3, hb, hrs, hc, hord, hn0, hwr, hnl, hend⟩
        have tj : j < 3 := by omega
        have hwl : ws.length = (rs ++ nw).length := hrs.length
        rw [List.length_append] at hwl
        walk_at "yn"
        refine y_draw S (n := 13 * (14 - (i + 1)) + 10 + 3 + 3 * (3 - (j + 1)) + 2) (hb.mono (by omega)) (by omega) (by omega) fun g o1 H1 g0 g1 hb1 S1 => ?_
        walk_at "yn"
        refine y_draw S1 hb1 (by omega) (by omega) fun w1 o2 H2 e0 e1 hb2 S2 => ?_
        walk_at "yn"
        refine y_newI S2 fun p2 B4 H3 b4 hp2 _ S3 => ?_
        walk_at "yn"
        refine y_draw S3 hb2 (by omega) (by omega) fun j3 o3 H4 e2 e3 hb3 S4 => ?_
        obtain ⟨wo2, hwo⟩ : ∃ wo : Option Int, atI [V.int w1, V.non, V.int (0 - (num + 1 + g))] j3 = some (wV wo) := by
          have c : j3 = 0 ∨ j3 = 1 ∨ j3 = 2 := by omega
          rcases c with rfl | rfl | rfl
          · exact ⟨some w1, rfl⟩
          · exact ⟨none, rfl⟩
          · exact ⟨some (0 - (num + 1 + g)), rfl⟩
        refine y_ixL (S4.l (sqL hp2)) hwo ?_
        walk_at "yn"
        refine y_newI S4 fun p3 B5 H5 b5 hp3 _ S5 => ?_
        walk_at "yn"
        refine y_app1 S5 (lenLt (by omega)) fun H6 S6 => ?_
        have bb := b4.trans b5
        walk_at "yn"
        refine ⟨o3, B5, _, nw ++ [(num + 1 + g, 1 + (i : Int), wo2)], _, wo2, _, rfl, S6, b3.trans bb, hb3, ?_, ?_, ?_, by omega, fun z hz => ?_, by simp [hnl], fun _ => ⟨nw, _, rfl, rfl, by show 1 + (i : Int) = _; omega⟩⟩
        · rw [← List.append_assoc]
          exact Paired.snoc (RowsAt.up bb hrs) ⟨p3, rfl, sqT hp3⟩
        · rw [← List.append_assoc]
          exact hc.snoc (by show num < num + 1 + g; omega) (Int.le_refl _) (by show 1 ≤ 1 + (i : Int); omega) (by show 1 + (i : Int) ≤ i + 1; omega) hn0
        · rw [← List.append_assoc, List.map_append, List.pairwise_append]
          refine ⟨hord, by simp, fun x hx y hy => ?_⟩
          obtain ⟨q, hq, rfl⟩ := List.mem_map.mp hx
          have := (hc.db q hq).2
          have hy2 : y = 1 + (i : Int) := by simpa using hy
          rw [hy2]
          omega
        · rcases List.mem_append.mp hz with hz | hz
          · exact hwr z hz
          · have : z = (num + 1 + g, 1 + (i : Int), wo2) := by simpa using hz
            rw [this]
            show 1 + (i : Int) = _
            omega
      · rintro σ H ⟨o, B3, ws, nw, n2, wo, y11, rfl, S, b3, hb, hrs, hc, hord, hn0, hwr, hnl, hend⟩
        have Yn : Nw (i : Int) rs nw n2 wo := ⟨hc, hord, hn0, hwr, hend (by omega)⟩
        have hnl3 : nw.length ≤ 3 := by omega
        walk_at "yn"
        refine y_lenD (.inl S.g2) ?_
        walk_at "yn"
        refine y_seenL S (flat5 hb) (.tail _ (.head _)) hrs (.tail _ (.tail _ (.head _))) fun v B4 H4 b4 hv S4 => ?_
        obtain ⟨x, ex, ew, eo⟩ := Yn.own (t := t) (at_ := (List.length (t.map enc) : Int))
        rw [show (1 : Int) + i = i + 1 by omega] at hv
        rw [ex] at hv
        obtain ⟨px, rfl, hpx⟩ := hv
        walk_at "yn"
        refine y_cutS (R := fun σ H => ∃ (y12 : Option V), σ = [some (.ref a), some (.int (0 + (i0 : Int))), some (.ref b), some (.ref r), some (.ref d), some (.ref u), some (.ref cc), some (.int least), some (.int n2), some (.int (1 + (i : Int))), some (wV wo), y11, y12, y13, y14, y15, y16] ∧ Sy e B4 H [(b, o), (r, .lst ws), (d, .dK (t.map enc)), (u, .lst (los.map V.int)), (cc, .lst (cp.map wV))]) (fun nx' hnx => ?_) (fun σ H hR => ?_)
        · walk_at "yy"
          rw [ew]
          refine y_neWW ?_
          walk_at "yy"
          refine y_iteIN (fun h => absurd eo (by omega)) (fun _ => ?_)
          walk_at "yy"
          exact hnx _ _ ⟨_, rfl, S4⟩
        obtain ⟨y12, rfl, S⟩ := hR
        have hrs4 := RowsAt.up b4 hrs
        have b14 := b3.trans b4
        clear hrs S4
        walk_at "yn"
        refine y_cutS (R := fun σ H => ∃ (o : HO) (t : Tab) (los : List Int) (cp : List (Option Int)), σ = [some (.ref a), some (.int (0 + (i0 : Int))), some (.ref b), some (.ref r), some (.ref d), some (.ref u), some (.ref cc), some (.int least), some (.int n2), some (.int (1 + (i : Int))), some (wV wo), y11, y12, y13, y14, y15, y16] ∧ Sy e B4 H [(b, o), (r, .lst ws), (d, .dK (t.map enc)), (u, .lst (los.map V.int)), (cc, .lst (cp.map wV))] ∧ Bag (13 * (14 - (i + 1)) + 10 + 2) o ∧ Od ((i : Int) + 1) t los (rs ++ nw) cp least n2 ∧ t.length ≤ i + 1 ∧ los.length ≤ i + 1) (fun nx' hnx => ?_) (fun σ H hR => ?_)
        · walk_at "yy"
          refine y_draw S (n := 13 * (14 - (i + 1)) + 10 + 2) (hb.mono (by omega)) (by omega) (by omega) fun fa o1 H1 f0 f1 hb1 S1 => ?_
          walk_at "yy"
          refine y_iteI (fun hf => ?_) (fun hf => ?_)
          · walk_at "yy"
            refine y_app3 S1 (by rw [List.length_map]; exact lenLt (by omega)) fun H2 S2 => ?_
            rw [show los.map V.int ++ [V.int (1 + (i : Int))] = (los ++ [(i : Int) + 1]).map V.int by rw [List.map_append, show (1 : Int) + i = i + 1 by omega]; rfl] at S2
            walk_at "yy"
            exact hnx _ _ ⟨o1, t, _, cp, rfl, S2, hb1, X.lost1 Yn, by omega, by simp; omega⟩
          · walk_at "yy"
            refine y_lenD (.inl S1.g2) ?_
            walk_at "yy"
            rw [List.length_map]
            have hno : 1 + (i : Int) ∉ t.map (·.1) := look_none.mp (by rw [show (1 : Int) + i = i + 1 by omega]; exact X.no)
            refine y_setD2 S1 (kk := .inl (1 + (i : Int))) rfl (by rw [List.length_map]; exact lenLt (by omega)) fun H5 S5 => ?_
            rw [put_enc hno, show (1 : Int) + i = i + 1 by omega] at S5
            walk_at "yy"
            refine And.intro (tyL S5.tail.g3) ?_
            walk_at "yy"
            refine y_app4 S5 (by rw [List.length_map, X.cl]; exact lenLt (by omega)) fun H6 S6 => ?_
            rw [show cp.map wV ++ [wV wo] = (cp ++ [wo]).map wV by rw [List.map_append]; rfl] at S6
            walk_at "yy"
            exact hnx _ _ ⟨o1, _, los, _, rfl, S6, hb1, X.kept1 Yn, by simp; omega, by omega⟩
        obtain ⟨o, t, los, cp, rfl, S, hb, X, htl, hll⟩ := hR
        have hwl : ws.length = (rs ++ nw).length := hrs4.length
        have hnl2 : (rs ++ nw).length ≤ 3 * (i + 1) := by rw [List.length_append]; omega
        generalize rs ++ nw = rs at hrs4 X hwl hnl2
        walk_at "yn"
        refine y_cutS (R := fun σ H => ∃ (o : HO) (B5 : Hp) (r : Addr) (ws : List V) (rs : List Ver) (least : Int) (y13 y16 : Option V), σ = [some (.ref a), some (.int (0 + (i0 : Int))), some (.ref b), some (.ref r), some (.ref d), some (.ref u), some (.ref cc), some (.int least), some (.int n2), some (.int (1 + (i : Int))), some (wV wo), y11, y12, y13, y14, y15, y16] ∧ Sy e B5 H [(b, o), (r, .lst ws), (d, .dK (t.map enc)), (u, .lst (los.map V.int)), (cc, .lst (cp.map wV))] ∧ Same B4 B5 ∧ Bag (13 * (14 - (i + 1)) + 10) o ∧ RowsAt K B5 ws rs ∧ Od ((i : Int) + 1) t los rs cp least n2 ∧ rs.length ≤ 3 * (i + 1)) (fun nx' hnx => ?_) (fun σ H hR => ?_)
        · walk_at "yy"
          refine y_draw S (n := 13 * (14 - (i + 1)) + 10 + 1) hb (by omega) (by omega) fun fa o1 H1 f0 f1 hb1 S1 => ?_
          walk_at "yy"
          refine y_iteI (fun hf => ?_) (fun hf => ?_)
          · walk_at "yy"
            refine y_lenD (.inl S1.g2) ?_
            rw [List.length_map]
            walk_at "yy"
            have hl1 := X.l1
            have hl0 := X.l0
            refine y_draw S1 (n := 13 * (14 - (i + 1)) + 10) hb1 (by omega) (by omega) fun g o2 H2 g0 g1 hb2 S2 => ?_
            walk_at "yy"
            refine y_goneL S2 (.tail _ (.head _)) hrs4 (by omega) (.tail _ (.tail _ (.head _))) (.tail _ (.tail _ (.tail _ (.head _)))) fun l B5 H3 b5 hl S3 => ?_
            have hrs5 := RowsAt.up b5 hrs4
            walk_at "yy"
            first | refine y_lstK (sqL S3.g2) ?_ | skip
            refine y_lcRel (RowAt K) (fun _ _ _ _ s h => RowAt.up s h) (walk_list (xs := ws)) S3 (by omega) (fun i => rs[i]?.bind fun r => if (!decide (r.1 ∈ goneF t los (least + g) rs)) = true then some r else none) (fun B10 H10 D acc b10 S10 => sqL S10.tail.g2) (fun i x B10 H10 H10' acc D Kp Kn hi b10 S10 hy kp kn => ?_) (fun B10 H10 acc D b10 hDD hp S10 => ?_)
            · obtain ⟨rfl, e2⟩ := hy
              obtain ⟨r2, hr8, p, rfl, hp⟩ := pr_getL hrs5 e2
              have hp9 := up_t b10 hp
              walk_at "yn"
              refine y_notInI (sqL S10.g1) ?_
              walk_at "yn"
              refine y_iteB (fun h2 => ?_) (fun h2 => ?_)
              · walk_at "yn"
                exact kp _ r2 _ _ (by rw [hr8]; exact if_pos h2) (Same.refl _) ⟨p, rfl, hp9⟩ S10
              · exact kn _ _ (by rw [hr8]; exact if_neg (by rw [h2]; exact Bool.false_ne_true)) (Same.refl _) S10
            rw [hwl, range_bind, fm_if (fun r : Ver => !decide (r.1 ∈ goneF t los (least + g) rs)), left_eq X.hs.up] at hp
            have S11 : Sy e B10 H10 [(b, o2), (D, .lst acc), (d, .dK (t.map enc)), (u, .lst (los.map V.int)), (cc, .lst (cp.map wV))] := (S10.drop1.swap).sub (List.Sublist.cons_cons _ (List.Sublist.cons_cons _ (List.sublist_cons_self _ _)))
            walk_at "yy"
            exact hnx _ _ ⟨o2, B10, D, acc, _, least + g, _, _, rfl, S11, b5.trans b10, hb2, hp, X.sweep (by omega) (by omega), by unfold leftF; exact Nat.le_trans (List.length_filter_le _ _) hnl2⟩
          · walk_at "yy"
            exact hnx _ _ ⟨o1, B4, r, ws, rs, least, _, _, rfl, S1, Same.refl _, hb1.mono (by omega), hrs4, X, hnl2⟩
        obtain ⟨o, B5, r, ws, rs, least, y13, y16, rfl, S, b5, hb, hrs5, X, hrl⟩ := hR
        have b15 := b14.trans b5
        have hl1 := X.l1
        have hl0 := X.l0
        have hcl := X.cl
        walk_at "yn"
        refine y_lenD (.inl S.g2) ?_
        rw [List.length_map]
        walk_at "yn"
        refine y_forR (fun (j : Nat) σ H => ∃ (B6 : Hp) (y12 y14 : Option V), σ = [some (.ref a), some (.int (0 + (i0 : Int))), some (.ref b), some (.ref r), some (.ref d), some (.ref u), some (.ref cc), some (.int least), some (.int n2), some (.int (1 + (i : Int))), some (wV wo), y11, y12, y13, y14, y15, y16] ∧ Sy e B6 H [(b, o), (r, .lst ws), (d, .dK (t.map enc)), (u, .lst (los.map V.int)), (cc, .lst (cp.map wV))] ∧ Same B5 B6) ⟨B5, _, _, rfl, S, Same.refl _⟩ ?_ ?_
        · rintro j σ H tj ⟨B6, y12, y14, rfl, S, b6⟩
          have hj : (least + j).toNat < cp.length := by omega
          obtain ⟨w, hw⟩ : ∃ w, cp[(least + j).toNat]? = some w := ⟨_, List.getElem?_eq_getElem hj⟩
          have hs := X.sn (least + j).toNat w (by omega) hw
          rw [show ((least + j).toNat : Int) = least + j by omega] at hs
          walk_at "yn"
          refine y_seenL S (flat5 hb) (.tail _ (.head _)) (RowsAt.up b6 hrs5) (.tail _ (.tail _ (.head _))) fun v B7 H7 b7 hv S7 => ?_
          walk_at "yn"
          cases hos : seenF t (least + j) 0 rs with
          | none =>
            rw [hos] at hv hs
            obtain rfl : v = .non := hv
            obtain rfl : none = w := hs
            walk_at "yy"
            refine y_ixL (sqL S7.tail.g3) (v := wV none) (atI_of (by omega) (by rw [List.getElem?_map, hw]; rfl)) ?_
            refine y_neWW (o := none) ?_
            walk_at "yy"
            exact ⟨B7, _, _, rfl, S7, b6.trans b7⟩
          | some f =>
            rw [hos] at hv hs
            obtain ⟨pf, rfl, hpf⟩ := hv
            obtain rfl : f.2.2 = w := hs
            walk_at "yy"
            refine y_ixL (sqL S7.tail.g3) (v := wV f.2.2) (atI_of (by omega) (by rw [List.getElem?_map, hw]; rfl)) ?_
            refine y_neWW ?_
            walk_at "yy"
            exact ⟨B7, _, _, rfl, S7, b6.trans b7⟩
        · rintro σ H ⟨B6, y12, y14, rfl, S, b6⟩
          have b16 := b15.trans b6
          have hrs6 := RowsAt.up b6 hrs5
          walk_at "yn"
          refine y_newestL S (flat5 hb) (.tail _ (.head _)) hrs6 (.tail _ (.tail _ (.head _))) fun v B7 H7 b7 hv S7 => ?_
          walk_at "yn"
          refine y_cutS (R := fun σ H => σ = [some (.ref a), some (.int (0 + (i0 : Int))), some (.ref b), some (.ref r), some (.ref d), some (.ref u), some (.ref cc), some (.int least), some (.int n2), some (.int (1 + (i : Int))), some (wV wo), y11, y12, y13, y14, some v, y16] ∧ Sy e B7 H [(b, o), (r, .lst ws), (d, .dK (t.map enc)), (u, .lst (los.map V.int)), (cc, .lst (cp.map wV))]) (fun nx' hnx => ?_) (fun σ H hR => ?_)
          · cases hos : newestF t rs with
            | none =>
              rw [hos] at hv
              obtain rfl : v = .non := hv
              rcases snoc_cases cp with hc | ⟨cp0, w, hc⟩
              · rw [hc] at hcl
                cases hcl
              · have hw : cp[t.length]? = some w := by
                  rw [hc] at hcl ⊢
                  rw [List.length_append, List.length_singleton] at hcl
                  rw [List.getElem?_append_right (by omega), show t.length - cp0.length = 0 by omega]
                  rfl
                obtain rfl : w = none := X.topN hos hw
                walk_at "yy"
                refine y_ixL (sqL S7.tail.g3) (v := .non) (by rw [hc, List.map_append]; exact atI_last _ _) ?_
                walk_at "yy"
                exact hnx _ _ ⟨rfl, S7⟩
            | some f =>
              rw [hos] at hv
              obtain ⟨pf, rfl, hpf⟩ := hv
              obtain ⟨q, hq1⟩ : ∃ q, look t f.2.1 = some q := Option.isSome_iff_exists.mp (newStep_in rs none (fun f h => by cases h) f hos)
              have hv1 := X.gr.vb f.2.1 q hq1
              have hj : q.toNat < cp.length := by omega
              obtain ⟨w, hw⟩ : ∃ w, cp[q.toNat]? = some w := ⟨_, List.getElem?_eq_getElem hj⟩
              have ht := X.top hos hq1 hw
              walk_at "yy"
              refine y_ixTabL (.inl S7.g2) hq1 ?_
              refine y_ixL (sqL S7.tail.g3) (v := wV w) (atI_of (by omega) (by rw [List.getElem?_map, hw]; rfl)) ?_
              rw [← ht]
              refine y_neWW ?_
              walk_at "yy"
              exact hnx _ _ ⟨rfl, S7⟩
          obtain ⟨rfl, S8⟩ := hR
          have e9 : ((i + 1 : Nat) : Int) = (i : Int) + 1 := by omega
          exact ⟨o, B7, r, ws, rs, t, los, cp, least, n2, _, _, _, _, _, _, _, _, rfl, S8, b16.trans b7, hb, RowsAt.up b7 hrs6, by rw [e9]; exact X, hrl, htl, hll⟩
    · rintro σ H ⟨o, B2, r, ws, rs, t, los, cp, least, num, y9, y10, y11, y12, y13, y14, y15, y16, rfl, S, b2, hb, hrs, X, hrl, htl, hll⟩
      exact ⟨_, _, _, _, _, _, _, _, _, _, _, _, _, _, _, _, _, rfl, S.none, b1.trans b2⟩
  · rintro σ H ⟨B1, y1, y2, y3, y4, y5, y6, y7, y8, y9, y10, y11, y12, y13, y14, y15, y16, rfl, S, b1⟩
    walk_at "yy"
    exact k _ b1 _ S

theorem fin {h : Heap} {fa : Addr} (X : K.In h) (G : h.Ns mainGlobals mg) (hmg : mg "law" = some (.ref fa)) (T : Tx K mg) :
    ∃ (K : PySem.W.Frag) (fd : FuncData) (sp : Sp), K.In h ∧ (∀ (s : Shared) (u : Value), BindsTo s fd ⟨[u], []⟩ [("script", u)]) ∧
      (∀ (H : Hp) (a : Addr) (ns : List Int), ns.length ≤ 63 → Only H → SqL K H a (ns.map V.int) → sp [.ref a] H (fun v _ => v = .bl true) fun _ _ _ => False) ∧
        ∀ base : Heap, K.In base → base.Ns mainGlobals mg → FnOk P w K mg base CX0 3 fa fd ["script"] sp := by
  obtain ⟨fd, F⟩ := T.F_law
  have e := hmg.symm.trans T.g_law
  cases e
  have b := FunD.bindsA (ps := ["script"]) F (fun _ _ _ _ _ _ us hl => match us, hl with | [_], _ => rfl)
  exact ⟨K, fd, spY (φ_law K), X, fun s u => b s [u] rfl, fun H a ns hl _ hS => ⟨H, [], ⟨Sub.refl H, fun p hp => (by cases hp), by simp⟩, a, ns, rfl, rfl, hS, hl, fun B' _ H' _ => rfl⟩, fun base _ _ => fn_law T fd F⟩

end
def d_is_within : He.DefD := ⟨("is_within", none), "is_within", "is_within", defArgs s_is_within, defBody s_is_within, defScope s_is_within, [], []⟩
def d_seen : He.DefD := ⟨("seen", none), "seen", "seen", defArgs s_seen, defBody s_seen, defScope s_seen, [.int 0], []⟩
def d_newest : He.DefD := ⟨("newest", none), "newest", "newest", defArgs s_newest, defBody s_newest, defScope s_newest, [], []⟩
def d_gone : He.DefD := ⟨("gone", none), "gone", "gone", defArgs s_gone, defBody s_gone, defScope s_gone, [], []⟩
def d_l_cell_at : He.DefD := ⟨("_law_cell_at", none), "_law_cell_at", "_law_cell_at", defArgs s_l_cell_at, defBody s_l_cell_at, defScope s_l_cell_at, [], []⟩
def d_l_bag : He.DefD := ⟨("_law_bag", none), "_law_bag", "_law_bag", defArgs s_l_bag, defBody s_l_bag, defScope s_l_bag, [], []⟩
def d_l_draw : He.DefD := ⟨("_law_draw", none), "_law_draw", "_law_draw", defArgs s_l_draw, defBody s_l_draw, defScope s_l_draw, [], []⟩
def d_law : He.DefD := ⟨("law", none), "law", "law", defArgs s_law, defBody s_law, defScope s_law, [], []⟩
def fnL : List He.DefD := [d_is_within, d_seen, d_newest, d_gone, d_l_cell_at, d_l_bag, d_l_draw, d_law]
def faL : List He.Fa := [.glo "is_within", .glo "seen", .glo "newest", .glo "gone", .glo "_law_cell_at", .glo "_law_bag", .glo "_law_draw", .glo "law", .free "len", .free "max", .free "min", .free "range"]
abbrev R : PySem.W.OpenRow := PySem.W.OpenLaw.row PySem.Challenge.rw_slotkeep_k06_whole_chains_of_dealings_in
abbrev hk : PySem.W.Hook := He.hookD 4 faL fnL
def ob (s : PySem.W.SharedT) : He.AlD := He.obsDG 4 faL fnL (HandSHeadRun.getT s)
theorem ob_eq (s : PySem.W.SharedT) : ob s = hk.obs s.abs := He.obsDG_eq (HandSHeadRun.getT_eq s)
def looseL : List PySem.Str := (["is_within", "seen", "newest", "gone", "_law_cell_at", "_law_bag", "_law_draw"] : List PySem.Str)
theorem run (w : World) : HandSHeadRun.RunEq R (PySem.W.view R.prog [9]) hk ob 2000 looseL w := by
  intro os
  kernel_rfl
theorem tx {K : PySem.W.Frag} {h : Heap} {mg : Str → Option Value} (X : K.In h) (G : h.Ns mainGlobals mg) (c : He.SaysD faL fnL K) : Tx K mg where
  F_is_within := c.def_ 0 (d := d_is_within) rfl
  g_is_within := He.glo_ok X G (c.fact 0 (f := .glo "is_within") rfl)
  F_seen := c.def_ 1 (d := d_seen) rfl
  g_seen := He.glo_ok X G (c.fact 1 (f := .glo "seen") rfl)
  F_newest := c.def_ 2 (d := d_newest) rfl
  g_newest := He.glo_ok X G (c.fact 2 (f := .glo "newest") rfl)
  F_gone := c.def_ 3 (d := d_gone) rfl
  g_gone := He.glo_ok X G (c.fact 3 (f := .glo "gone") rfl)
  F_l_cell_at := c.def_ 4 (d := d_l_cell_at) rfl
  g_l_cell_at := He.glo_ok X G (c.fact 4 (f := .glo "_law_cell_at") rfl)
  F_l_bag := c.def_ 5 (d := d_l_bag) rfl
  g_l_bag := He.glo_ok X G (c.fact 5 (f := .glo "_law_bag") rfl)
  F_l_draw := c.def_ 6 (d := d_l_draw) rfl
  g_l_draw := He.glo_ok X G (c.fact 6 (f := .glo "_law_draw") rfl)
  F_law := c.def_ 7 (d := d_law) rfl
  g_law := He.glo_ok X G (c.fact 7 (f := .glo "law") rfl)
  n_len := He.free_ok X G (c.fact 8 (f := .free "len") rfl)
  n_max := He.free_ok X G (c.fact 9 (f := .free "max") rfl)
  n_min := He.free_ok X G (c.fact 10 (f := .free "min") rfl)
  n_range := He.free_ok X G (c.fact 11 (f := .free "range") rfl)
end K06
open PySem PySem.W PySem.Calls PyProof.Rows
theorem PySem.Challenge.cw_slotkeep_k06_whole_chains_of_dealings_in_holds : PySem.Challenge.rw_slotkeep_k06_whole_chains_of_dealings_in.Holds := by
  w_on; o_law
  refine HandSHeadRun.head_any (r := OpenLaw.row PySem.Challenge.rw_slotkeep_k06_whole_chains_of_dealings_in) (q := view (OpenLaw.row PySem.Challenge.rw_slotkeep_k06_whole_chains_of_dealings_in).prog [9]) (H := K06.hk) (ob := K06.ob) (M := 2000) (loose := K06.looseL) (d := HandSHeadRun.topDef (OpenLaw.row PySem.Challenge.rw_slotkeep_k06_whole_chains_of_dealings_in).prog 9) (kwd := []) K06.ob_eq
    (by kernel_rfl) (fun s => by kernel_rfl) K06.run (by kernel_rfl) (by kernel_rfl) (by kernel_rfl) (by rfl) (by first | assumption | decide +kernel) (by decide +kernel) ⟨rfl, rfl, rfl, rfl, rfl, by decide +kernel⟩ ?hw ?hc
  case hw => w_witness2
  case hc =>
    refine L2.walk_ofE (l := PySem.Challenge.rw_slotkeep_k06_whole_chains_of_dealings_in) (n := 63) (k := 3) (x := "script") (CX := L2.CX0) rfl (by decide) (by kernel_rfl) ⟨rfl, by decide, by decide⟩ ?F (fun _ _ _ _ z => z)
    intro w mg fa h Y G hmg0
    obtain ⟨K, KX, c⟩ := Y
    have hmg : mg ("law" : PySem.Str) = some (.ref fa) := by
      have e : (HandSHeadRun.topDef (OpenLaw.row PySem.Challenge.rw_slotkeep_k06_whole_chains_of_dealings_in).prog 9).name = ("law" : PySem.Str) := by kernel_rfl
      rw [← e]
      exact hmg0
    exact K06.fin (P := (PySem.Challenge.rw_slotkeep_k06_whole_chains_of_dealings_in).prog) (w := w) KX G hmg (K06.tx KX G c)
