import PyProof.Rows.All
import Wide.All
import OpenK.AllK
import Wide.FinOn
import HandS.ForMost
import HandS.Walk
import HandS.Wide
import HandS.DeepEq
import HandS.DictComp
import KE.KEqNest
import PyProof.NeKinds
import HandS.SortRule
import HandS.SortInts
import HandS.Defaults
import HandS.Flow
import HandS.Head0
import HandS.Head1
import HandS.Head2
import HandS.HeadEnd
import HandS.HeadHook1
import HandS.HeadHook2
import HandS.More
import KE.DataMinMax
import PyProof.DictWalks
import HandS.IsInst
import OpenK.KEqL
import KE.DataEq
import HandS.Replace
import HandS.MakeKw
import HandS.MakeKwOnly
import HandS.New0
import KE.SortKeyHeap
import PyProof.Rows.SortWalk
import HandS.Conv
import HandS.ExcInit
import HandS.ExcValue
import HandS.ExcIs
import HandS.ExcField
import KE.KExcIs
import HandS.HeadHook4
import HandS.Set
import HandS.SetKeys
import PyProof.Rows.SetFrom
import HandS.SortKw
import HandS.Style
import KE.DatumOrd
import HandS.DictEq
import PyProof.P3Eq
import PyProof.Rows.SeqMore
import KE.KUnpackStar
import HandS.CallLocal
import HandS.NoneIn
import HandS.TupAny
import PySem.Challenge.RW_slotkeep_k59_histories_that_cannot_be
set_option Elab.async false
set_option linter.all false
set_option maxRecDepth 100000
set_option maxHeartbeats 4000000
/-! The symbolic state over the hand layer: a ghost base B (what is never changed again), the heap H, a ledger L of what may be changed. -/
namespace Y
open PySem PySem.Spec PyProof.Rows L2

abbrev Led := List (Addr × HO)

/-- a dict -/
def Dk : HO → Prop
  | .dK _ => True
  | .dT _ => True
  | _ => False
/-- no tuple -/
def NT (o : HO) : Prop := ∀ xs, o ≠ .tup xs
/-- what stands in B stands in H, a dict locked perhaps -/
def Sub (B H : Hp) : Prop := ∀ a o, B a = some o → H a = some o ∨ (Dk o ∧ ∃ ob, H a = some (.frz ob o))

/-- the entry: what may change (M), what is locked since (Z), the base, the heap -/
structure En where
  M : List Addr
  Z : List (Addr × Obj × HO)
  B : Hp
  H : Hp

structure Sy (e : En) (B H : Hp) (L : Led) : Prop where
  b0 : Same e.B B
  bh : Sub B H
  led : ∀ p ∈ L, H p.1 = some p.2 ∧ B p.1 = none ∧ (p.1 ∈ e.M ∨ e.H p.1 = none) ∧ p.1 ∉ e.Z.map (·.1)
  nd : (L.map (·.1)).Nodup
  keep : ∀ a o, a ∉ e.M → a ∉ e.Z.map (·.1) → e.H a = some o → H a = some o
  fresh : ∀ a, e.H a ≠ none → e.B a = none → B a = none ∨ ∃ xs, B a = some (.tup xs)
  there : ∀ a, e.H a ≠ none → H a ≠ none
  zin : ∀ p ∈ e.Z, H p.1 = some (.frz p.2.1 p.2.2)
  lk : ∀ a o, B a = some o → Dk o → H a = some o ∨ a ∈ e.Z.map (·.1) ∨ ∃ ob u, e.H a = some (.frz ob u)
  nt : ∀ p ∈ L, NT p.2

/-- what a caller hands over -/
structure Hand (B H : Hp) (L : Led) : Prop where
  bh : Sub B H
  led : ∀ p ∈ L, H p.1 = some p.2 ∧ B p.1 = none
  nd : (L.map (·.1)).Nodup
  nt : ∀ p ∈ L, NT p.2

theorem Sub.refl (B : Hp) : Sub B B := fun _ _ h => .inl h
theorem Sub.of {B H : Hp} (h : Same B H) : Sub B H := fun a o e => .inl (h a o e)
section
variable {e : En} {B B' H H' : Hp} {L R : Led} {a b p : Addr} {o o' u : HO} {K : PySem.W.Frag} {v : V} {dd : PyData} {xs : List V}

theorem Sub.rd (h : Sub B H) (r : Rd B a u) : Rd H a u := by
  rcases r with r | ⟨ob, r⟩
  · rcases h a _ r with q | ⟨_, ob, q⟩
    · exact .inl q
    · exact .inr ⟨ob, q⟩
  · rcases h a _ r with q | ⟨m, _⟩
    · exact .inr ⟨ob, q⟩
    · exact m.elim
theorem Sub.l (h : Sub B H) (r : SqL K B a xs) : SqL K H a xs := by
  rcases r with r | r
  · exact .inl (h.rd r)
  · exact .inr r
theorem Sub.t (h : Sub B H) (r : SqT K B a xs) : SqT K H a xs := by
  rcases r with r | r
  · exact .inl (h.rd r)
  · exact .inr r
theorem Sub.tup (h : Sub B H) (r : B a = some (.tup xs)) : H a = some (.tup xs) := by
  rcases h a _ r with q | ⟨m, _⟩
  · exact q
  · exact m.elim
theorem Sub.lst (h : Sub B H) (r : B a = some (.lst xs)) : H a = some (.lst xs) := by
  rcases h a _ r with q | ⟨m, _⟩
  · exact q
  · exact m.elim
theorem Sub.ins {C dx : Addr} {fs : List (Str × V)} (h : Sub B H) (r : B a = some (.ins C dx fs)) : H a = some (.ins C dx fs) := by
  rcases h a _ r with q | ⟨m, _⟩
  · exact q
  · exact m.elim

mutual
theorem Sub.d (h : Sub B H) : ∀ {d : PyData} {v : V}, Dp K B v d → Dp K H v d
  | _, _, .non => .non
  | _, _, .bl b => .bl b
  | _, _, .int i => .int i
  | _, _, .str x => .str x
  | _, _, .lst r q => .lst (h.l r) (Sub.ds h q)
  | _, _, .tup r q => .tup (h.t r) (Sub.ds h q)
theorem Sub.ds (h : Sub B H) : ∀ {ds : List PyData} {vs : List V}, DpAll K B vs ds → DpAll K H vs ds
  | _, _, .nil => .nil
  | _, _, .cons r q => .cons (Sub.d h r) (Sub.ds h q)
end
theorem up_d (h : Same B B') (r : Dp K B v dd) : Dp K B' v dd := Sub.d (Sub.of h) r
theorem up_l (h : Same B B') (r : SqL K B a xs) : SqL K B' a xs := (Sub.of h).l r
theorem up_t (h : Same B B') (r : SqT K B a xs) : SqT K B' a xs := (Sub.of h).t r
theorem up_o (h : Same B B') (r : B a = some o) : B' a = some o := h a o r

theorem Hand.start (h : Hand B H L) : Sy ⟨L.map (·.1), [], B, H⟩ B H L :=
  ⟨Same.refl B, h.bh, fun p hp => ⟨(h.led p hp).1, (h.led p hp).2, .inl (List.mem_map.mpr ⟨p, hp, rfl⟩), by simp⟩, h.nd, fun _ _ _ _ q => q, fun _ _ q => .inl q, fun _ q => q, fun _ q => absurd q (by simp), fun a o q hk => (h.bh a o q).elim .inl fun z => .inr (.inr ⟨_, _, z.2.choose_spec⟩), h.nt⟩

/-- only some of the ledger -/
theorem Sy.sub (S : Sy e B H L) {L' : Led} (h : L'.Sublist L) : Sy e B H L' :=
  ⟨S.b0, S.bh, fun p hp => S.led p (h.subset hp), S.nd.sublist (h.map _), S.keep, S.fresh, S.there, S.zin, S.lk, fun p hp => S.nt p (h.subset hp)⟩
theorem Sy.perm (S : Sy e B H L) {L' : Led} (h : L.Perm L') : Sy e B H L' :=
  ⟨S.b0, S.bh, fun p hp => S.led p (h.mem_iff.mpr hp), (h.map _).nodup_iff.mp S.nd, S.keep, S.fresh, S.there, S.zin, S.lk, fun p hp => S.nt p (h.mem_iff.mpr hp)⟩
theorem Sy.none (S : Sy e B H L) : Sy e B H [] := S.sub (List.nil_sublist _)
theorem Sy.tail {q : Addr × HO} (S : Sy e B H (q :: L)) : Sy e B H L := S.sub (List.sublist_cons_self _ _)
theorem Sy.swap {q1 q2 : Addr × HO} (S : Sy e B H (q1 :: q2 :: L)) : Sy e B H (q2 :: q1 :: L) := S.perm (List.Perm.swap _ _ _)

/-- a new thing that is never changed again -/
theorem Sy.newI (S : Sy e B H L) (h : H p = Option.none) : Same B (upd B p o) ∧ Sy e (upd B p o) (upd H p o) L := by
  have hB : B p = Option.none := by
    cases q : B p with
    | none => rfl
    | some x => rcases S.bh p x q with r | ⟨_, _, r⟩ <;> (rw [h] at r; cases r)
  have sb : Same B (upd B p o) := fun a x q => by rw [upd_ne (ne_of_none q hB)]; exact q
  have hH0 : e.H p = Option.none := by
    cases q : e.H p with
    | none => rfl
    | some x => exact absurd h (S.there p (by rw [q]; simp))
  refine ⟨sb, S.b0.trans sb, fun a x q => ?_, fun q hq => ?_, S.nd, fun a x h1 h2 q => ?_, fun a q1 q2 => ?_, fun a q => ?_, fun a q => ?_, fun a x q hk => ?_, S.nt⟩
  · by_cases ha : a = p
    · subst ha; rw [upd_same] at q; cases q; exact .inl upd_same
    · rw [upd_ne ha] at q
      rw [upd_ne ha]; exact S.bh a x q
  · obtain ⟨q1, q2, q3, q4⟩ := S.led q hq
    have ne : q.1 ≠ p := ne_of_none q1 h
    exact ⟨by rw [upd_ne ne]; exact q1, by rw [upd_ne ne]; exact q2, q3, q4⟩
  · have r := S.keep a x h1 h2 q
    rw [upd_ne (ne_of_none r h)]; exact r
  · have ne : a ≠ p := fun z => by subst z; exact q1 hH0
    rw [upd_ne ne]; exact S.fresh a q1 q2
  · have r := S.there a q
    have ne : a ≠ p := fun z => by subst z; exact r h
    rw [upd_ne ne]; exact r
  · have r := S.zin a q
    rw [upd_ne (ne_of_none r h)]; exact r
  · by_cases ha : a = p
    · subst ha; rw [upd_same] at q; cases q; exact .inl upd_same
    · rw [upd_ne ha] at q
      rw [upd_ne ha]; exact S.lk a x q hk
/-- a new thing that may be changed -/
theorem Sy.newM (S : Sy e B H L) (h : H p = Option.none) (no : NT o := by intro _ z; cases z) : e.H p = Option.none ∧ Sy e B (upd H p o) ((p, o) :: L) := by
  have hB : B p = Option.none := by
    cases q : B p with
    | none => rfl
    | some x => rcases S.bh p x q with r | ⟨_, _, r⟩ <;> (rw [h] at r; cases r)
  have hH0 : e.H p = Option.none := by
    cases q : e.H p with
    | none => rfl
    | some x => exact absurd h (S.there p (by rw [q]; simp))
  refine ⟨hH0, S.b0, fun a x q => ?_, fun q hq => ?_, ?_, fun a x h1 h2 q => ?_, S.fresh, fun a q => ?_, fun a q => ?_, fun a x q hk => ?_, fun q hq => (List.mem_cons.mp hq).elim (fun z => by rw [z]; exact no) (S.nt q)⟩
  · rw [upd_ne (ne_of_none q hB)]; exact S.bh a x q
  · rcases List.mem_cons.mp hq with rfl | hq
    · exact ⟨upd_same, hB, .inr hH0, fun z => by
        obtain ⟨q, hq, e1⟩ := List.mem_map.mp z
        have := S.zin q hq
        rw [show q.1 = p from e1, h] at this; cases this⟩
    · obtain ⟨q1, q2, q3, q4⟩ := S.led q hq
      exact ⟨by rw [upd_ne (ne_of_none q1 h)]; exact q1, q2, q3, q4⟩
  · rw [List.map_cons]
    refine List.nodup_cons.mpr ⟨fun hm => ?_, S.nd⟩
    obtain ⟨q, hq, e1⟩ := List.mem_map.mp hm
    have := (S.led q hq).1
    rw [show q.1 = p from e1, h] at this; cases this
  · have r := S.keep a x h1 h2 q
    rw [upd_ne (ne_of_none r h)]; exact r
  · have r := S.there a q
    have ne : a ≠ p := fun z => by subst z; exact r h
    rw [upd_ne ne]; exact r
  · have r := S.zin a q
    rw [upd_ne (ne_of_none r h)]; exact r
  · rw [upd_ne (ne_of_none q hB)]; exact S.lk a x q hk
/-- a new thing that nobody asks any more -/
theorem Sy.newG (S : Sy e B H L) (h : H p = Option.none) : Sy e B (upd H p o) L := by
  have hB : B p = Option.none := by
    cases q : B p with
    | none => rfl
    | some x => rcases S.bh p x q with r | ⟨_, _, r⟩ <;> (rw [h] at r; cases r)
  refine ⟨S.b0, fun a x q => ?_, fun q hq => ?_, S.nd, fun a x h1 h2 q => ?_, S.fresh, fun a q => ?_, fun a q => ?_, fun a x q hk => ?_, S.nt⟩
  · rw [upd_ne (ne_of_none q hB)]; exact S.bh a x q
  · obtain ⟨q1, q2, q3, q4⟩ := S.led q hq
    exact ⟨by rw [upd_ne (ne_of_none q1 h)]; exact q1, q2, q3, q4⟩
  · have r := S.keep a x h1 h2 q
    rw [upd_ne (ne_of_none r h)]; exact r
  · have r := S.there a q
    have ne : a ≠ p := fun z => by subst z; exact r h
    rw [upd_ne ne]; exact r
  · have r := S.zin a q
    rw [upd_ne (ne_of_none r h)]; exact r
  · rw [upd_ne (ne_of_none q hB)]; exact S.lk a x q hk
/-- the first of the ledger is changed -/
theorem Sy.w0 (S : Sy e B H ((a, o) :: L)) (o' : HO) (no : NT o' := by intro _ z; cases z) : Sy e B (upd H a o') ((a, o') :: L) := by
  obtain ⟨q1, q2, q3, q4⟩ := S.led (a, o) List.mem_cons_self
  have hnd := List.nodup_cons.mp (show (a :: L.map (·.1)).Nodup from S.nd)
  refine ⟨S.b0, fun b x q => ?_, fun q hq => ?_, S.nd, fun b x h1 h2 q => ?_, S.fresh, fun b q => ?_, fun b q => ?_, fun b x q hk => ?_, fun q hq => (List.mem_cons.mp hq).elim (fun z => by rw [z]; exact no) (fun z => S.nt q (List.mem_cons_of_mem _ z))⟩
  · rw [upd_ne (ne_of_none q q2)]; exact S.bh b x q
  · rcases List.mem_cons.mp hq with rfl | hq
    · exact ⟨upd_same, q2, q3, q4⟩
    · obtain ⟨r1, r2, r3, r4⟩ := S.led q (List.mem_cons_of_mem _ hq)
      have ne : q.1 ≠ a := fun z => hnd.1 (List.mem_map.mpr ⟨q, hq, z⟩)
      exact ⟨by rw [upd_ne ne]; exact r1, r2, r3, r4⟩
  · have r := S.keep b x h1 h2 q
    have ne : b ≠ a := fun z => by
      subst z
      rcases q3 with z | z
      · exact h1 z
      · rw [show (b, o).1 = b from rfl] at z; rw [q] at z; cases z
    rw [upd_ne ne]; exact r
  · by_cases hb : b = a
    · subst hb; rw [upd_same]; simp
    · rw [upd_ne hb]; exact S.there b q
  · have ne : b.1 ≠ a := fun z => q4 (List.mem_map.mpr ⟨b, q, z⟩)
    rw [upd_ne ne]; exact S.zin b q
  · rw [upd_ne (ne_of_none q q2)]; exact S.lk b x q hk
theorem Sy.w1 {q : Addr × HO} (S : Sy e B H (q :: (a, o) :: L)) (o' : HO) (no : NT o' := by intro _ z; cases z) : Sy e B (upd H a o') (q :: (a, o') :: L) := (S.swap.w0 o' no).swap
theorem Sy.g0 (S : Sy e B H ((a, o) :: L)) : H a = some o := (S.led _ List.mem_cons_self).1
theorem Sy.g1 {q : Addr × HO} (S : Sy e B H (q :: (a, o) :: L)) : H a = some o := S.tail.g0
theorem Sy.g2 {q1 q2 : Addr × HO} (S : Sy e B H (q1 :: q2 :: (a, o) :: L)) : H a = some o := S.tail.tail.g0
theorem Sy.g3 {q1 q2 q3 : Addr × HO} (S : Sy e B H (q1 :: q2 :: q3 :: (a, o) :: L)) : H a = some o := S.tail.tail.tail.g0
/-- the first of the ledger is changed no more -/
theorem Sy.freeze (S : Sy e B H ((a, o) :: L)) (h : e.H a = Option.none) : Same B (upd B a o) ∧ Sy e (upd B a o) H L := by
  obtain ⟨q1, q2, q3, q4⟩ := S.led (a, o) List.mem_cons_self
  have hnd := List.nodup_cons.mp (show (a :: L.map (·.1)).Nodup from S.nd)
  have sb : Same B (upd B a o) := fun b x q => by rw [upd_ne (ne_of_none q q2)]; exact q
  refine ⟨sb, S.b0.trans sb, fun b x q => ?_, fun q hq => ?_, hnd.2, S.keep, fun b r1 r2 => ?_, S.there, S.zin, fun b x q hk => ?_, fun q hq => S.nt q (List.mem_cons_of_mem _ hq)⟩
  · by_cases hb : b = a
    · subst hb; rw [upd_same] at q; cases q; exact .inl q1
    · rw [upd_ne hb] at q; exact S.bh b x q
  · obtain ⟨r1, r2, r3, r4⟩ := S.led q (List.mem_cons_of_mem _ hq)
    have ne : q.1 ≠ a := fun z => hnd.1 (List.mem_map.mpr ⟨q, hq, z⟩)
    exact ⟨r1, by rw [upd_ne ne]; exact r2, r3, r4⟩
  · have ne : b ≠ a := fun z => by subst z; exact r1 h
    rw [upd_ne ne]; exact S.fresh b r1 r2
  · by_cases hb : b = a
    · subst hb; rw [upd_same] at q; cases q; exact .inl q1
    · rw [upd_ne hb] at q; exact S.lk b x q hk
/-- what a callee is handed: the first n of the ledger -/
theorem Sy.hand (S : Sy e B H (L ++ R)) : Hand B H L :=
  ⟨S.bh, fun p hp => ⟨(S.led p (List.mem_append_left _ hp)).1, (S.led p (List.mem_append_left _ hp)).2.1⟩, by
    have h := S.nd
    rw [List.map_append] at h
    exact (List.nodup_append.mp h).1, fun p hp => S.nt p (List.mem_append_left _ hp)⟩
/-- behind a call -/
theorem Sy.back {L' : Led} (S : Sy e B H (L ++ R)) (T : Sy ⟨L.map (·.1), [], B, H⟩ B' H' L') (hl : L'.map (·.1) = L.map (·.1)) : Sy e B' H' (L' ++ R) := by
  have nd := S.nd
  rw [List.map_append] at nd
  have nR : ∀ p ∈ R, p.1 ∉ L.map (·.1) := fun p hp hm => (List.nodup_append.mp nd).2.2 _ hm _ (List.mem_map.mpr ⟨p, hp, rfl⟩) rfl
  have frR : ∀ p ∈ R, B' p.1 = Option.none := fun p hp => by
    obtain ⟨s1, s2, s3, s4⟩ := S.led p (List.mem_append_right _ hp)
    rcases T.fresh p.1 (by show H p.1 ≠ _; rw [s1]; simp) s2 with z | ⟨xs, z⟩
    · exact z
    · have h1 := T.keep p.1 p.2 (nR p hp) (by simp) s1
      have h2 := T.bh.tup z
      rw [h1] at h2
      exact absurd (Option.some.inj h2) (S.nt p (List.mem_append_right _ hp) xs)
  refine ⟨S.b0.trans T.b0, T.bh, fun p hp => ?_, ?_, fun a x h1 h2 q => ?_, fun a r1 r2 => ?_, fun a r => T.there a (S.there a r), fun p hp => ?_, fun a x q hk => ?_, fun p hp => (List.mem_append.mp hp).elim (T.nt p) (fun z => S.nt p (List.mem_append_right _ z))⟩
  · rcases List.mem_append.mp hp with hp | hp
    · obtain ⟨r1, r2, r3, r4⟩ := T.led p hp
      have hm : p.1 ∈ L.map (·.1) := by rw [← hl]; exact List.mem_map.mpr ⟨p, hp, rfl⟩
      obtain ⟨q, hq, eq⟩ := List.mem_map.mp hm
      obtain ⟨s1, s2, s3, s4⟩ := S.led q (List.mem_append_left _ hq)
      exact ⟨r1, r2, by rw [← eq]; exact s3, by rw [← eq]; exact s4⟩
    · obtain ⟨s1, s2, s3, s4⟩ := S.led p (List.mem_append_right _ hp)
      exact ⟨T.keep p.1 p.2 (nR p hp) (by simp) s1, frR p hp, s3, s4⟩
  · rw [List.map_append, hl]; exact nd
  · have r := S.keep a x h1 h2 q
    refine T.keep a x (fun hm => ?_) (by simp) r
    obtain ⟨p, hp, eq⟩ := List.mem_map.mp hm
    obtain ⟨s1, s2, s3, s4⟩ := S.led p (List.mem_append_left _ hp)
    rw [show p.1 = a from eq] at s3
    rcases s3 with z | z
    · exact h1 z
    · rw [q] at z; cases z
  · rcases S.fresh a r1 r2 with z | ⟨xs, z⟩
    · exact T.fresh a (S.there a r1) z
    · exact .inr ⟨xs, T.b0 a _ z⟩
  · refine T.keep p.1 _ (fun hm => ?_) (by simp) (S.zin p hp)
    obtain ⟨q, hq, eq⟩ := List.mem_map.mp hm
    exact (S.led q (List.mem_append_left _ hq)).2.2.2 (List.mem_map.mpr ⟨p, hp, eq.symm⟩)
  · rcases T.lk a x q hk with z | z | ⟨ob, u, z⟩
    · exact .inl z
    · exact absurd z (by simp)
    · have z : H a = some (.frz ob u) := z
      cases r : B a with
      | none =>
        rcases T.fresh a (by show H a ≠ _; rw [z]; simp) r with this | ⟨xs, this⟩
        · rw [q] at this; cases this
        · rw [q] at this; cases this; exact hk.elim
      | some y =>
        have e1 : B' a = some y := T.b0 a y r
        rw [q] at e1; cases e1
        rcases S.lk a x r hk with z2 | z2 | z2
        · rw [z] at z2; cases z2; exact hk.elim
        · exact .inr (.inl z2)
        · exact .inr (.inr z2)
/-- .. that laid new things that may be changed -/
theorem Sy.backN {L' N' : Led} (S : Sy e B H (L ++ R)) (T : Sy ⟨L.map (·.1), [], B, H⟩ B' H' (N' ++ L')) (hl : L'.map (·.1) = L.map (·.1)) (hn : ∀ p ∈ N', H p.1 = Option.none) : (∀ p ∈ N', e.H p.1 = Option.none) ∧ Sy e B' H' (N' ++ (L' ++ R)) := by
  have S1 := S.back (T.sub (List.sublist_append_right N' L')) hl
  have h0 : ∀ p ∈ N', e.H p.1 = Option.none := fun p hp => by
    cases q : e.H p.1 with
    | none => rfl
    | some x => exact absurd (hn p hp) (S.there p.1 (by rw [q]; simp))
  refine ⟨h0, S1.b0, S1.bh, fun p hp => ?_, ?_, S1.keep, S1.fresh, S1.there, S1.zin, S1.lk, fun p hp => (List.mem_append.mp hp).elim (fun z => T.nt p (List.mem_append_left _ z)) (S1.nt p)⟩
  · rcases List.mem_append.mp hp with hp | hp
    · obtain ⟨r1, r2, r3, r4⟩ := T.led p (List.mem_append_left _ hp)
      refine ⟨r1, r2, .inr (h0 p hp), fun z => ?_⟩
      obtain ⟨q, hq, e1⟩ := List.mem_map.mp z
      have := S.zin q hq
      rw [show q.1 = p.1 from e1, hn p hp] at this; cases this
    · exact S1.led p hp
  · have nd := T.nd
    rw [List.map_append] at nd ⊢
    refine List.nodup_append.mpr ⟨(List.nodup_append.mp nd).1, S1.nd, fun a ha b hb hab => ?_⟩
    subst hab
    obtain ⟨p, hp, ep⟩ := List.mem_map.mp ha
    obtain ⟨r, hr, er⟩ := List.mem_map.mp hb
    rcases List.mem_append.mp hr with hr | hr
    · exact (List.nodup_append.mp nd).2.2 _ ha _ (List.mem_map.mpr ⟨r, hr, er⟩) rfl
    · have q1 := hn p hp
      have q2 := (S.led r (List.mem_append_right _ hr)).1
      rw [show p.1 = a from ep] at q1
      rw [show r.1 = a from er, q1] at q2
      cases q2
theorem Sy.backN0 (S : Sy e B H L) (T : Sy ⟨[], [], B, H⟩ B' H' [(a, o)]) : e.H a = Option.none ∧ Sy e B' H' ((a, o) :: L) := by
  have hn : H a = Option.none := by
    obtain ⟨_, _, r3, _⟩ := T.led (a, o) List.mem_cons_self
    rcases r3 with z | z
    · cases z
    · exact z
  obtain ⟨h1, h2⟩ := Sy.backN (L := []) (L' := []) (N' := [(a, o)]) S T rfl (fun p hp => by
    rcases List.mem_cons.mp hp with rfl | hp
    · exact hn
    · cases hp)
  exact ⟨h1 _ List.mem_cons_self, h2⟩
theorem Sy.back0 (S : Sy e B H L) (T : Sy ⟨[], [], B, H⟩ B' H' []) : Sy e B' H' L := Sy.back (L := []) (L' := []) S T rfl
theorem Sy.back1 (S : Sy e B H ((a, o) :: L)) (T : Sy ⟨[a], [], B, H⟩ B' H' [(a, o')]) : Sy e B' H' ((a, o') :: L) := Sy.back (L := [(a, o)]) (L' := [(a, o')]) S T rfl
theorem Sy.hand0 (S : Sy e B H L) : Hand B H [] := Sy.hand (L := []) (R := L) S
theorem Sy.hand1 (S : Sy e B H ((a, o) :: L)) : Hand B H [(a, o)] := Sy.hand (L := [(a, o)]) (R := L) S
end

/-! ### locks -/
section
variable {e : En} {B B' H H' : Hp} {L L' : Led} {d : Addr} {u : HO} {od : Obj}
/-- a dict of the base is locked -/
theorem Sy.lock (S : Sy e B H L) (hB : B d = some u) (hk : Dk u) (hH : H d = some u) : Sy { e with Z := (d, od, u) :: e.Z } B (upd H d (.frz od u)) L := by
  refine ⟨S.b0, fun a o q => ?_, fun p hp => ?_, S.nd, fun a o h1 h2 q => ?_, S.fresh, fun a q => ?_, fun p hp => ?_, fun a o q hk2 => ?_, S.nt⟩
  · by_cases ha : a = d
    · subst ha
      rw [hB] at q; cases q
      exact .inr ⟨hk, od, upd_same⟩
    · rw [upd_ne ha]; exact S.bh a o q
  · obtain ⟨q1, q2, q3, q4⟩ := S.led p hp
    have ne : p.1 ≠ d := fun z => by rw [z, hB] at q2; cases q2
    refine ⟨by rw [upd_ne ne]; exact q1, q2, q3, fun z => ?_⟩
    rcases List.mem_cons.mp z with z | z
    · exact ne z
    · exact q4 z
  · have h2 : a ≠ d ∧ a ∉ e.Z.map (·.1) := ⟨fun z => h2 (by rw [z]; exact List.mem_cons_self), fun z => h2 (List.mem_cons_of_mem _ z)⟩
    rw [upd_ne h2.1]; exact S.keep a o h1 h2.2 q
  · by_cases ha : a = d
    · subst ha; rw [upd_same]; simp
    · rw [upd_ne ha]; exact S.there a q
  · rcases List.mem_cons.mp hp with rfl | hp
    · exact upd_same
    · have r := S.zin p hp
      have ne : p.1 ≠ d := fun z => by
        rw [z, hH] at r
        cases r
        exact hk
      rw [upd_ne ne]; exact r
  · by_cases ha : a = d
    · exact .inr (.inl (by rw [ha]; exact List.mem_cons_self))
    · rw [upd_ne ha]
      rcases S.lk a o q hk2 with z | z | z
      · exact .inl z
      · exact .inr (.inl (List.mem_cons_of_mem _ z))
      · exact .inr (.inr z)
/-- .. and let go of -/
theorem Sy.unlock (S : Sy e B H L) (hB : B d = some u) (hk : Dk u) (hH : H d = some u) (b : Same B B') (T : Sy { e with Z := (d, od, u) :: e.Z } B' H' L') : H' d = some (.frz od u) ∧ Sy e B' (upd H' d u) L' := by
  have hd : H' d = some (.frz od u) := T.zin (d, od, u) List.mem_cons_self
  refine ⟨hd, T.b0, fun a o q => ?_, fun p hp => ?_, T.nd, fun a o h1 h2 q => ?_, T.fresh, fun a q => ?_, fun p hp => ?_, fun a o q hk2 => ?_, T.nt⟩
  · by_cases ha : a = d
    · subst ha
      rw [b a u hB] at q; cases q
      exact .inl upd_same
    · rw [upd_ne ha]; exact T.bh a o q
  · obtain ⟨q1, q2, q3, q4⟩ := T.led p hp
    have ne : p.1 ≠ d := fun z => q4 (by rw [z]; exact List.mem_cons_self)
    exact ⟨by rw [upd_ne ne]; exact q1, q2, q3, fun z => q4 (List.mem_cons_of_mem _ z)⟩
  · by_cases ha : a = d
    · subst ha
      have r := S.keep a o h1 h2 q
      rw [hH] at r; cases r
      exact upd_same
    · rw [upd_ne ha]
      refine T.keep a o h1 (fun z => ?_) q
      rcases List.mem_cons.mp z with z | z
      · exact ha z
      · exact h2 z
  · by_cases ha : a = d
    · subst ha; rw [upd_same]; simp
    · rw [upd_ne ha]; exact T.there a q
  · have r := S.zin p hp
    have ne : p.1 ≠ d := fun z => by
      rw [z, hH] at r
      cases r
      exact hk
    rw [upd_ne ne]; exact T.zin p (List.mem_cons_of_mem _ hp)
  · by_cases ha : a = d
    · subst ha
      rw [b a u hB] at q; cases q
      exact .inl upd_same
    · rw [upd_ne ha]
      rcases T.lk a o q hk2 with z | z | z
      · exact .inl z
      · rcases List.mem_cons.mp z with z | z
        · exact absurd z ha
        · exact .inr (.inl z)
      · exact .inr (.inr z)
/-- a dict that was laid since stands as it is -/
theorem Sy.dk (S : Sy e B H L) (hB : B d = some u) (hk : Dk u) (hn : e.H d = Option.none) (hz : e.Z = []) : H d = some u := by
  rcases S.lk d u hB hk with z | z | ⟨_, _, z⟩
  · exact z
  · rw [hz] at z; cases z
  · rw [hn] at z; cases z
end
section
variable {e : En} {B B' H H' : Hp} {L L' : Led} {d : Addr} {o : HO} {M : List Addr}
/-- what is laid since the entry is not in the entry's base -/
theorem Sy.bnone (S : Sy e B H L) (he : e.H = H) (hd : e.H d = Option.none) : B d = Option.none := by
  cases q : B d with
  | none => rfl
  | some x =>
    rw [he] at hd
    rcases S.bh d x q with z | ⟨_, _, z⟩ <;> (rw [hd] at z; cases z)
/-- what a callee has laid is laid since the caller's entry -/
theorem Sy.newOf (S : Sy e B H L) (T : Sy ⟨M, [], B, H⟩ B' H' L') (h0 : B d = Option.none) (h1 : B' d = some o) (no : NT o := by intro _ z; cases z) : e.H d = Option.none := by
  cases q : e.H d with
  | none => rfl
  | some x =>
    have h2 : H d ≠ Option.none := S.there d (by rw [q]; simp)
    rcases T.fresh d h2 h0 with h3 | ⟨xs, h3⟩
    · rw [h1] at h3; cases h3
    · rw [h1] at h3; exact absurd (Option.some.inj h3) (no xs)
end
/-- a tuple that stands is taken into the base -/
theorem Sy.adopt {e : En} {B H : Hp} {L : Led} {p : Addr} {xs : List V} (S : Sy e B H L) (h : H p = some (.tup xs)) : ∃ B', Same B B' ∧ B' p = some (.tup xs) ∧ Sy e B' H L := by
  cases q : B p with
  | some o =>
    have : o = .tup xs := by
      rcases S.bh p o q with z | ⟨_, ob, z⟩
      · rw [h] at z; exact (Option.some.inj z).symm
      · rw [h] at z; cases z
    subst this
    exact ⟨B, Same.refl _, q, S⟩
  | none =>
    have sb : Same B (upd B p (.tup xs)) := fun a x z => by rw [upd_ne (ne_of_none z q)]; exact z
    refine ⟨_, sb, upd_same, S.b0.trans sb, fun a x z => ?_, fun r hr => ?_, S.nd, S.keep, fun a r1 r2 => ?_, S.there, S.zin, fun a x z hk => ?_, S.nt⟩
    · by_cases ha : a = p
      · subst ha; rw [upd_same] at z; cases z; exact .inl h
      · rw [upd_ne ha] at z; exact S.bh a x z
    · obtain ⟨q1, q2, q3, q4⟩ := S.led r hr
      have ne : r.1 ≠ p := fun z => by
        rw [z, h] at q1
        exact S.nt r hr xs (Option.some.inj q1).symm
      exact ⟨q1, by rw [upd_ne ne]; exact q2, q3, q4⟩
    · by_cases ha : a = p
      · subst ha; exact .inr ⟨xs, upd_same⟩
      · rw [upd_ne ha]; exact S.fresh a r1 r2
    · by_cases ha : a = p
      · subst ha; rw [upd_same] at z; cases z; exact hk.elim
      · rw [upd_ne ha] at z; exact S.lk a x z hk
/-- a promise in these words: the base, the arguments, what may be changed, and what is wanted of the base, the answer and the changed behind it -/
abbrev Ph := Hp → List V → Led → (Hp → V → Led → Prop) → Prop
def spY (φ : Ph) : Sp := fun vs H Q _ => ∃ B L, Hand B H L ∧ φ B vs L fun B' v L' => ∀ H', Sy ⟨L.map (·.1), [], B, H⟩ B' H' L' → Q v H'
end Y
/-! == and != of things that are alike and hold dicts: lists, tuples, dicts in one another. -/
namespace Y
open PySem PySem.Spec PyProof.Rows L2
/-- alike: lists or dicts or tuples of things that are alike by E -/
def AlR (K : PySem.W.Frag) (H : Hp) (E : V → V → Prop) (x y : V) : Prop :=
  EqR K H E x y ∨ ∃ a b xs ys, x = .ref a ∧ y = .ref b ∧ SqT K H a xs ∧ SqT K H b ys ∧ Paired E xs ys
/-- alike, of a nesting below n -/
def Al (K : PySem.W.Frag) (H : Hp) : Nat → V → V → Prop
  | 0 => fun _ _ => False
  | n + 1 => fun x y => (x = y ∧ flatB x = true) ∨ (∃ a, x = .ref a ∧ y = .ref a) ∨ AlR K H (Al K H n) x y
section
open PySem.SeqAt
open AutoSeq1 (wpAny_loadPart')
variable {prog : Program} {w : World}
/-- two tuples of as many things, alike one by one, are not unlike -/
theorem tup_not_ne {l b : Addr} {us ws : Array Value} {n1 n2 : Nat} {d1 d2 : Option Addr} {s1 s2 : Array (Option Value)} (hz : us.size = ws.size) :
    MeetsIn prog w (Builtin.«tuple.__ne__» ⟨[.ref l, .ref b], []⟩) fun A R s =>
      s.heap.get? l = some ⟨.type "tuple", d1, .seq us n1, s1⟩ ∧ s.heap.get? b = some ⟨.type "tuple", d2, .seq ws n2, s2⟩ ∧
        (∀ j (p : j < us.size) (q : j < ws.size), EqP prog w A.in1 s us[j] ws[j] true) ∧ R (.ok (.ret (.bool false))) s := by
  refine .of_wp fun A R s hyp => ?_
  obtain ⟨hp, g, d, tk, os⟩ := s
  obtain ⟨h1, h2, h3, h4⟩ := hyp
  have sub := AutoSeq1.sub_tuple_tuple
  wp_walk using wpAny_loadPart' h1, wpAny_loadPart' h2, wpAny_forIn_list _ (fun todo acc now => acc.1 = none ∧ now = ⟨hp, g, d, tk, os⟩ ∧ ∃ k, todo = (us.toList.zip ws.toList).drop k) _
  case turn =>
    rintro ⟨p, q⟩ todo acc now ⟨e1, e2, k, e3⟩
    subst e2
    have hk : k < (us.toList.zip ws.toList).length := Nat.lt_of_not_le fun z => by
      rw [List.drop_of_length_le z] at e3
      cases e3
    have hk1 : k < us.size := by simp at hk; omega
    have hk2 : k < ws.size := by omega
    rw [List.drop_eq_getElem_cons hk] at e3
    injection e3 with e4 e5
    have e6 : p = us[k] := by simpa using congrArg Prod.fst e4
    have e7 : q = ws[k] := by simpa using congrArg Prod.snd e4
    rw [e6, e7]
    refine wpAny_bind (h3 k hk1 hk2 _ _ ?_)
    wp_walk
    exact ⟨rfl, rfl, k + 1, e5⟩
  case fin =>
    rintro ⟨c1, c2⟩ now ⟨e1, e2, k, e3⟩
    have e1 : c1 = none := e1
    subst e1 e2
    wp_walk
    refine ⟨_, rfl, ?_⟩
    simpa [Builtin.Tuple.tupleCompareSizes, bne, hz] using h4
  case h => exact ⟨rfl, rfl, 0, rfl⟩
end
section
variable {X : Cx} {pins : List (Addr × Obj)} {σ : L2.St} {H : Hp} {s : Shared}
theorem alR_run (I : Inv X pins σ H s) {A : Around} {F : V → V → Prop} (hu : A.units < cLine) (ih : ∀ x y v u, F x y → RelV x v → RelV y u → SeqAt.EqP X.prog X.w A.in1 s v u true) {x y : V} {v u : Value} (h : AlR X.K H F x y) (rx : RelV x v) (ry : RelV y u)
    (E Q : Value → Shared → Prop) (q : Q (.bool true) s) : wpAny (model X.prog X.w) A (richCompare .Eq v u) Q E s := by
  rcases h with h | ⟨a, b, xs, ys, rfl, rfl, ha, hb, hp⟩
  · exact eqR_run I hu ih h rx ry E Q q
  · cases (show v = Value.ref a from rx)
    cases (show u = Value.ref b from ry)
    obtain ⟨us, r1, p1, _⟩ := I.tuple ha
    obtain ⟨ws, r2, p2, _⟩ := I.tuple hb
    have hl : us.length = ws.length := by rw [← r1.length, ← r2.length]; exact Paired.length hp
    refine SeqAt.rcIn_tuples (e := fun _ => true) p1 p2 hu (fun j h1 h2 => ?_) ?_
    · have k := items_run ih hp r1 r2 j (by simpa using h1) (by simpa using h2)
      have k' : SeqAt.EqP X.prog X.w A.in1 s us.toArray[j] ws.toArray[j] true := by simpa using k
      exact k'
    · have e : ((List.range (min us.toArray.size ws.toArray.size)).all (fun _ => true) && us.toArray.size == ws.toArray.size) = true := by simp [hl]
      rw [e]
      exact q
theorem al_run (I : Inv X pins σ H s) : ∀ (n : Nat) (A : Around), A.units + n < cLine → ∀ (x y : V) (v u : Value), Al X.K H n x y → RelV x v → RelV y u → SeqAt.EqP X.prog X.w A s v u true
  | 0, _, _, _, _, _, _, h, _, _ => (show False from h).elim
  | n + 1, A, hu, x, y, v, u, h, rx, ry => by
    rcases h with ⟨rfl, f⟩ | ⟨a, rfl, rfl⟩ | h
    · exact (eqAt_same rx ry f).eqP
    · cases (show v = Value.ref a from rx)
      cases (show u = Value.ref a from ry)
      exact (SeqAt.EqAt.same _).eqP
    · have go := alR_run I (A := A) (by omega) (al_run I n A.in1 (by show A.units + 1 + n < cLine; omega)) h rx ry
      have two : ∃ a b, x = .ref a ∧ y = .ref b := by
        rcases h with (⟨a, b, _, _, e1, e2, _⟩ | ⟨a, b, _, _, e1, e2, _⟩) | ⟨a, b, _, _, e1, e2, _⟩ <;> exact ⟨a, b, e1, e2⟩
      obtain ⟨a, b, rfl, rfl⟩ := two
      cases (show v = Value.ref a from rx)
      cases (show u = Value.ref b from ry)
      by_cases e : a = b
      · subst e
        exact (SeqAt.EqAt.same _).eqP
      · exact SeqAt.eqP_refs e go
end
section
variable {X : Cx}
def rEqA (K : PySem.W.Frag) : R2 := fun x y H Q => ∃ n, n ≤ 60 ∧ AlR K H (Al K H n) x y ∧ Q (.bl true) H
theorem op_eqA (hu : X.A.units + 64 < cLine) : OpR X (compareOp .Eq) (rEqA X.K) := by
  intro pins s σ H x y v u Q I rx ry h
  obtain ⟨n, hn, h, q⟩ := h
  exact alR_run I (A := X.A) (by omega) (al_run I n X.A.in1 (by show X.A.units + 1 + n < cLine; omega)) h rx ry _ _ ⟨.bl true, H, I, rfl, q⟩
/-- != of two tuples that are alike; of two dicts -/
def rNeA (K : PySem.W.Frag) : R2 := fun x y H Q => ∃ n a b xs ys, n ≤ 60 ∧ x = .ref a ∧ y = .ref b ∧ SqT K H a xs ∧ SqT K H b ys ∧ Paired (Al K H n) xs ys ∧ Q (.bl false) H
theorem op_neA (hu : X.A.units + 64 < cLine) : OpR X (compareOp .NotEq) (rNeA X.K) := by
  intro pins s σ H x y v u Q I rx ry h
  obtain ⟨n, a, b, xs, ys, hn, rfl, rfl, ha, hb, hp, q⟩ := h
  cases (show v = Value.ref a from rx)
  cases (show u = Value.ref b from ry)
  obtain ⟨us, r1, p1, _⟩ := I.tuple ha
  obtain ⟨ws, r2, p2, _⟩ := I.tuple hb
  have hl : us.length = ws.length := by rw [← r1.length, ← r2.length]; exact Paired.length hp
  have hit : ∀ j (p : j < us.toArray.size) (q : j < ws.toArray.size), SeqAt.EqP X.prog X.w X.A.in1 s us.toArray[j] ws.toArray[j] true := fun j p q => by
    have k := items_run (al_run I n X.A.in1 (by show X.A.units + 1 + n < cLine; omega)) hp r1 r2 j (by simpa using p) (by simpa using q)
    simpa using k
  obtain ⟨⟨c1, d1, dt1, s1⟩, g1, k1, m1, t1⟩ := p1
  obtain ⟨⟨c2, d2, dt2, s2⟩, g2, k2, m2, t2⟩ := p2
  have k1 : c1 = .type "tuple" := k1
  have k2 : c2 = .type "tuple" := k2
  have t1 : dt1 = .seq us.toArray m1 := t1
  have t2 : dt2 = .seq ws.toArray m2 := t2
  subst k1 k2 t1 t2
  refine wpAny_richCompare_same_room (T := "tuple") (op := .NotEq) ⟨_, g1, rfl⟩ ⟨_, g2, rfl⟩ F.slot_tuple_ne (call_meetsIn F.slot_tuple_ne ⟨_, g1, rfl⟩ F.entry_tuple_ne (F.args_tuple_ne_2 _ _) (tup_not_ne (by simp [hl])) ⟨g1, g2, hit, ?_⟩) (by omega)
  exact (show Value.bool false ≠ Value.notImplemented ∧ EP X pins σ Q (.bool false) s from ⟨fun z => (nomatch z), V.bl false, H, I, rfl, q⟩)
/-! ### a list against the empty list -/
def rEqE (K : PySem.W.Frag) : R2 := fun x y H Q => ∃ a b xs, x = .ref a ∧ y = .ref b ∧ SqL K H a xs ∧ SqL K H b [] ∧ Q (.bl xs.isEmpty) H
def rNeE (K : PySem.W.Frag) : R2 := fun x y H Q => ∃ a b xs, x = .ref a ∧ y = .ref b ∧ SqL K H a xs ∧ SqL K H b [] ∧ Q (.bl (!xs.isEmpty)) H
theorem op_eqE (hu : X.A.units + 64 < cLine) : OpR X (compareOp .Eq) (rEqE X.K) := by
  intro pins s σ H x y v u Q I rx ry h
  obtain ⟨a, b, xs, rfl, rfl, ha, hb, q⟩ := h
  cases (show v = Value.ref a from rx)
  cases (show u = Value.ref b from ry)
  obtain ⟨us, r1, p1, _⟩ := I.list ha
  obtain ⟨ws, r2, p2, _⟩ := I.list hb
  cases r2
  cases r1 with
  | nil => exact SeqAt.RcAt.lists (e := fun _ => true) p1.isList p2.isList rfl (by omega) (fun j h1 _ => absurd h1 (by simp)) X.prog X.w _ _ ⟨V.bl true, H, I, rfl, q⟩
  | cons _ _ => exact SeqAt.RcAt.lists_lengths p1.isList p2.isList (by simp) (by omega) X.prog X.w _ _ ⟨V.bl false, H, I, rfl, q⟩
theorem op_neE (hu : X.A.units + 64 < cLine) : OpR X (compareOp .NotEq) (rNeE X.K) := by
  intro pins s σ H x y v u Q I rx ry h
  obtain ⟨a, b, xs, rfl, rfl, ha, hb, q⟩ := h
  cases (show v = Value.ref a from rx)
  cases (show u = Value.ref b from ry)
  obtain ⟨us, r1, p1, _⟩ := I.list ha
  obtain ⟨ws, r2, p2, _⟩ := I.list hb
  cases r2
  cases r1 with
  | nil => exact SeqAt.RcNeAt.lists (e := fun _ => true) p1.isList p2.isList rfl (by omega) (fun j h1 _ => absurd h1 (by simp)) X.prog X.w _ _ ⟨V.bl false, H, I, rfl, q⟩
  | cons _ _ => exact SeqAt.RcNeAt.lists_lengths p1.isList p2.isList (by simp) (by omega) X.prog X.w _ _ ⟨V.bl true, H, I, rfl, q⟩
end
end Y
/-! One rule for each operator, whatever the kinds; the walk picks by the values. -/
namespace Y
open PySem PySem.Spec PyProof.Rows L2
section
variable {X : Cx}

/-! ### great powers -/
def CPowW (i j : Int) : Prop := 0 ≤ j ∧ j ≤ 100 ∧ i.natAbs.log2 < 100000
theorem pow_ok {i j : Int} {b : Nat} (ha : i.natAbs < 2 ^ b) (h0 : 0 < b) (hb : b ≤ 100000) (h1 : 0 ≤ j) (h2 : j ≤ 100) : CPowW i j := ⟨h1, h2, Nat.lt_of_lt_of_le (PySem.Flt.log2_lt_of h0 ha) hb⟩
theorem op_powW : OpR X (binaryOp .Pow) (rI CPowW fun i j => .int (i ^ j.toNat)) := opI fun i j _ _ _ _ _ hc q => by
  refine pow_int hc.1 ?_ q
  have hb : Builtin.Int.intBits i ≤ i.natAbs.log2 + 1 := by unfold Builtin.Int.intBits; split <;> omega
  have hl : i.natAbs.log2 < 100000 := hc.2.2
  have h2 : (Builtin.Int.intBits i : Int) ≤ 100000 := by omega
  have h3 : (Builtin.Int.intBits i : Int) * j ≤ 100000 * 100 := Int.mul_le_mul h2 hc.2.1 hc.1 (by decide)
  omega

/-! ### + -/
def rAddI : R2 := fun x y H Q => ∃ i j, x = .int i ∧ y = .int j ∧ Q (.int (i + j)) H
def rAddS : R2 := fun x y H Q => ∃ i j, x = .str i ∧ y = .str j ∧ i.length + j.length ≤ sizeLine ∧ Q (.str (i ++ j)) H
def rAddU (K : PySem.W.Frag) : R2 := fun x y H Q => rAddI x y H Q ∨ (rAddS x y H Q ∨ (rCat x y H Q ∨ rCatT K x y H Q))
theorem op_addU {K : PySem.W.Frag} (hK : X.K = K) : OpR X (binaryOp .Add) (rAddU K) := hK ▸ OpR.or (r := rAddI) op_add (OpR.or (r := rAddS) op_add_str (OpR.or op_cat op_catT))
def rSubI : R2 := fun x y H Q => ∃ i j, x = .int i ∧ y = .int j ∧ Q (.int (i - j)) H
theorem op_subU : OpR X (binaryOp .Sub) rSubI := op_sub
def rMulI : R2 := fun x y H Q => ∃ i j, x = .int i ∧ y = .int j ∧ CMul i j ∧ Q (.int (i * j)) H
def rDivI : R2 := fun x y H Q => ∃ i j, x = .int i ∧ y = .int j ∧ CDivW i j ∧ Q (.int (i / j)) H
theorem op_divU : OpR X (binaryOp .FloorDiv) rDivI := op_fdivW
def rModI : R2 := fun x y H Q => ∃ i j, x = .int i ∧ y = .int j ∧ 0 < j ∧ Q (.int (i % j)) H
theorem op_modU : OpR X (binaryOp .Mod) rModI := op_mod
def rPowI : R2 := fun x y H Q => ∃ i j, x = .int i ∧ y = .int j ∧ CPowW i j ∧ Q (.int (i ^ j.toNat)) H
theorem op_powU : OpR X (binaryOp .Pow) rPowI := op_powW
def rNegI : V → Hp → VK → Prop := fun x H Q => ∃ i, x = .int i ∧ Q (.int (-i)) H
theorem un_negU : UnR X (unaryOp .USub) rNegI := un_neg

/-! ### comparisons -/
def rLtI : R2 := fun x y H Q => ∃ i j, x = .int i ∧ y = .int j ∧ Q (.bl (decide (i < j))) H
def rLtS : R2 := fun x y H Q => ∃ i j, x = .str i ∧ y = .str j ∧ Q (.bl (decide (i.cps.toList < j.cps.toList))) H
def rLtU : R2 := fun x y H Q => rLtI x y H Q ∨ rLtS x y H Q
theorem op_ltU : OpR X (compareOp .Lt) rLtU := OpR.or (r := rLtI) op_lt op_lt_str
def rLeI : R2 := fun x y H Q => ∃ i j, x = .int i ∧ y = .int j ∧ Q (.bl (decide (i ≤ j))) H
def rLeS : R2 := fun x y H Q => ∃ i j, x = .str i ∧ y = .str j ∧ Q (.bl (!decide (j.cps.toList < i.cps.toList))) H
def rLeU : R2 := fun x y H Q => rLeI x y H Q ∨ rLeS x y H Q
theorem op_leU : OpR X (compareOp .LtE) rLeU := OpR.or (r := rLeI) op_le op_le_str
def rGtI : R2 := fun x y H Q => ∃ i j, x = .int i ∧ y = .int j ∧ Q (.bl (decide (j < i))) H
theorem op_gtU : OpR X (compareOp .Gt) rGtI := op_gt
def rGeI : R2 := fun x y H Q => ∃ i j, x = .int i ∧ y = .int j ∧ Q (.bl (decide (j ≤ i))) H
theorem op_geU : OpR X (compareOp .GtE) rGeI := op_ge
def rEqU (K : PySem.W.Frag) : R2 := fun x y H Q => rEq x y H Q ∨ (rEqD K x y H Q ∨ (rEqA K x y H Q ∨ rEqE K x y H Q))
theorem op_eqU {K : PySem.W.Frag} (hK : X.K = K) (hu : X.A.units + 64 < cLine) : OpR X (compareOp .Eq) (rEqU K) := hK ▸ OpR.or op_eq (OpR.or (op_eqD hu) (OpR.or (op_eqA hu) (op_eqE hu)))
def rNeU (K : PySem.W.Frag) : R2 := fun x y H Q => rNe x y H Q ∨ (rNeD K x y H Q ∨ (rNeA K x y H Q ∨ rNeE K x y H Q))
theorem op_neU {K : PySem.W.Frag} (hK : X.K = K) (hu : X.A.units + 64 < cLine) : OpR X (compareOp .NotEq) (rNeU K) := hK ▸ OpR.or op_ne (OpR.or (op_neD hu) (OpR.or (op_neA hu) (op_neE hu)))
def rIsNU : R2 := fun x y H Q => y = .non ∧ Q (.bl (decide (x = .non))) H
theorem op_isU : OpR X (compareOp .Is) rIsNU := op_isN
def rNotNU : R2 := fun x y H Q => y = .non ∧ Q (.bl (!decide (x = .non))) H
theorem op_isnotU : OpR X (compareOp .IsNot) rNotNU := op_notN

/-! ### in -/
def rInDk : R2 := fun x y H Q => ∃ a o, y = .ref a ∧ DGet H a x o ∧ Q (.bl o.isSome) H
theorem op_inD (hu : X.A.units + 1 < cLine) : OpR X (compareOp .In) rInDk := by
  intro pins s σ H x y v u Q I rx ry h
  obtain ⟨a, o, rfl, g, q⟩ := h
  obtain rfl : u = Value.ref a := ry
  exact d_in hu I g rx fun s3 I3 => ⟨.bl o.isSome, H, I3, rfl, q⟩
def rNotInDk : R2 := fun x y H Q => ∃ a o, y = .ref a ∧ DGet H a x o ∧ Q (.bl (!o.isSome)) H
theorem op_notInD (hu : X.A.units + 1 < cLine) : OpR X (compareOp .NotIn) rNotInDk := by
  intro pins s σ H x y v u Q I rx ry h
  obtain ⟨a, o, rfl, g, q⟩ := h
  obtain rfl : u = Value.ref a := ry
  exact d_notIn hu I g rx fun s3 I3 => ⟨.bl (!o.isSome), H, I3, rfl, q⟩
def rInSg : R2 := fun x y H Q => ∃ (c : Nat) (z : Str), x = .str ⟨#[c]⟩ ∧ y = .str z ∧ Q (.bl (decide (c ∈ z.cps.toList))) H
def rNotInSg : R2 := fun x y H Q => ∃ (c : Nat) (z : Str), x = .str ⟨#[c]⟩ ∧ y = .str z ∧ Q (.bl (!decide (c ∈ z.cps.toList))) H
def rInU (K : PySem.W.Frag) : R2 := fun x y H Q => rIn K false x y H Q ∨ (rInSg x y H Q ∨ rInDk x y H Q)
theorem op_inU {K : PySem.W.Frag} (hK : X.K = K) (hu : X.A.units + 1 < cLine) : OpR X (compareOp .In) (rInU K) := hK ▸ OpR.or op_in_seq (OpR.or (r := rInSg) op_in_sign (op_inD hu))
def rNotInU (K : PySem.W.Frag) : R2 := fun x y H Q => rIn K true x y H Q ∨ (rNotInSg x y H Q ∨ rNotInDk x y H Q)
theorem op_notInU {K : PySem.W.Frag} (hK : X.K = K) (hu : X.A.units + 1 < cLine) : OpR X (compareOp .NotIn) (rNotInU K) := hK ▸ OpR.or op_notIn_seq (OpR.or (r := rNotInSg) op_notIn_sign (op_notInD hu))

/-! ### subscripts -/
def rIxD : R2 := fun x y H Q => ∃ a v, x = .ref a ∧ DGet H a y (some v) ∧ Q v H
theorem ix_dict (hu : X.A.units + 1 < cLine) : IxR X rIxD := by
  intro value slice pins s σ H x y v u Q I rx ry h hs
  obtain ⟨a, w, rfl, g, q⟩ := h
  obtain rfl : v = Value.ref a := rx
  exact tail_any (dict_typeIs I g) PySem.F.slot_dict_getitem.lookup (d_getItem hu I g ry fun w' s3 I3 rw' => ⟨w, H, I3, rw', q⟩) hs
def rIxU (K : PySem.W.Frag) : R2 := fun x y H Q => rIx K x y H Q ∨ rIxD x y H Q
theorem ix_U {K : PySem.W.Frag} (hK : X.K = K) (hu : X.A.units + 1 < cLine) : IxR X (rIxU K) := hK ▸ IxR.or ix_seq (ix_dict hu)
def rSetD : V → V → V → Hp → (Hp → Prop) → Prop := fun o i v H Q => ∃ a H', o = .ref a ∧ DPut H a i v H' ∧ Q H'
theorem set_dict (hu : X.A.units + 1 < cLine) : PSet X rSetD := by
  intro pins s σ H o i v ov iv u Q I ro ri rv h
  obtain ⟨a, H', rfl, g, q⟩ := h
  obtain rfl : ov = Value.ref a := ro
  exact d_setItem hu I g ri rv fun s4 I4 => ⟨H', I4, q⟩
def rSetU : V → V → V → Hp → (Hp → Prop) → Prop := fun o i v H Q => rSetL o i v H Q ∨ rSetD o i v H Q
theorem set_U (hu : X.A.units + 1 < cLine) : PSet X rSetU := by
  intro pins s σ H o i v ov iv u Q I ro ri rv h
  rcases h with h | h
  · exact set_list pins s σ H o i v ov iv u Q I ro ri rv h
  · exact set_dict hu pins s σ H o i v ov iv u Q I ro ri rv h
def rSlU (K : PySem.W.Frag) : V → Option Int → Option Int → Hp → VK → Prop := fun x lo hi H Q => rSlL K x lo hi H Q ∨ (∃ z, x = .str z ∧ z.length ≤ sizeLine ∧ Q (.str (cutS z lo hi)) H)
theorem sl_U {K : PySem.W.Frag} (hK : X.K = K) : SlR X (rSlU K) := hK ▸ SlR.or sl_list sl_str
/-! ### the layer's rules with K told -/
theorem pi_listK {K : PySem.W.Frag} {tg l : Expr} {tl : TE} (hK : X.K = K) (hl : PE X l tl) : PI X tg l (iList K tl) := hK ▸ pi_list hl
theorem pi_enumK {K : PySem.W.Frag} {e : Expr} {ta : TA} {p pos tpos : Pos} {elts : List Expr} {kk : Nat} (hK : X.K = K) (hg : Gl X "enumerate") (hm : X.mg "enumerate" = none) (ha : PA X [e] ta) (hs : starEach [e] X.env = [(false, eval e X.env)] := by rfl) :
    PI X (.Tuple elts kk tpos) (.Call (.Name "enumerate" p) [e] [] pos) (iEnum K ta) := hK ▸ pi_enum hg hm ha hs
theorem pg_tupK {K : PySem.W.Frag} {es : List Expr} {k : Nat} {t : TGs} {n : Nat} {pos : Pos} (hK : X.K = K) (hc : X.calm = true) (h : PGs X es t)
    (hn : (assignEach es X.env).length = n := by rfl) (hst : (assignEach es X.env).findIdx? (·.1) = none := by rfl) : PG X (.Tuple es k pos) (gTup K n t) := hK ▸ pg_tup hc h hn hst
theorem pe_bmK {K : PySem.W.Frag} {T id : String} {name : Str} {r : V → List V → Hp → VK → Prop} {o e : Expr} {es : List Expr} {to : TE} {t : TA} {apos cpos : Pos} (hK : X.K = K) (h : PE X (.Call (.Attribute o name apos) (e :: es) [] cpos) (tBM X.K T r to t)) : PE X (.Call (.Attribute o name apos) (e :: es) [] cpos) (tBM K T r to t) := hK ▸ h
end
end Y
/-! The walk through a reading, step by step. -/
namespace Y
open PySem PySem.Spec PyProof.Rows L2
section
variable {K : PySem.W.Frag} {σ : L2.St} {H : Hp} {Q : VK} {D : Ends} {ta tb te tc : TE} {t u : TS} {tt tu : TT} {i : Nat} {v x y : V} {r r' : R2} {g : TG} {nx bk ct : L2.St → Hp → Prop} {rt : VK} {QT : Bool → Hp → Prop} {QA : List V → Hp → Prop}

/-! ### statements -/
theorem y_seq (h : t ⟨u ⟨nx, rt, bk, ct⟩, rt, bk, ct⟩ σ H) : tSeq t u ⟨nx, rt, bk, ct⟩ σ H := h
theorem y_next (h : nx σ H) : tNext ⟨nx, rt, bk, ct⟩ σ H := h
theorem y_asg (h : te σ H fun x H1 => g x σ H1 nx) : tAsg te g ⟨nx, rt, bk, ct⟩ σ H := h
theorem y_gname {N : L2.St → Hp → Prop} (h : N (σ.set i (some v)) H) : gName i v σ H N := h
theorem y_drop (h : te σ H fun _ H1 => nx σ H1) : tDrop te ⟨nx, rt, bk, ct⟩ σ H := h
theorem y_ret (h : te σ H rt) : tRet te ⟨nx, rt, bk, ct⟩ σ H := h
theorem y_ifS (h : tt σ H fun b H1 => if b = true then t ⟨nx, rt, bk, ct⟩ σ H1 else u ⟨nx, rt, bk, ct⟩ σ H1) : tIfS tt t u ⟨nx, rt, bk, ct⟩ σ H := h
/-- behind a statement R holds, whatever comes then -/
theorem y_cutS {ts : TS} {R : L2.St → Hp → Prop} (h1 : ∀ nx' : L2.St → Hp → Prop, (∀ σ H, R σ H → nx' σ H) → ts ⟨nx', rt, bk, ct⟩ σ H) (h2 : ∀ σ H, R σ H → nx σ H) : ts ⟨nx, rt, bk, ct⟩ σ H := h1 nx h2
/-- behind an expression, a test -/
theorem y_cutE {R : V → Hp → Prop} (h1 : ∀ Q' : VK, (∀ v H, R v H → Q' v H) → te σ H Q') (h2 : ∀ v H, R v H → Q v H) : te σ H Q := h1 Q h2
theorem y_cutT {R : Bool → Hp → Prop} (h1 : ∀ Q' : Bool → Hp → Prop, (∀ v H, R v H → Q' v H) → tt σ H Q') (h2 : ∀ v H, R v H → QT v H) : tt σ H QT := h1 QT h2

/-! ### expressions -/
theorem y_var (h : σ[i]? = some (some v)) (q : Q v H) : tVar i σ H Q := ⟨v, h, q⟩
theorem y_c (q : Q v H) : tC v σ H Q := q
theorem y_op (h : ta σ H fun x H1 => tb σ H1 fun y H2 => r x y H2 Q) : tOp r ta tb σ H Q := h
theorem y_un {r : V → Hp → VK → Prop} (h : ta σ H fun x H1 => r x H1 Q) : tUn r ta σ H Q := h
theorem y_ifE (h : tt σ H fun c H1 => if c = true then ta σ H1 Q else tb σ H1 Q) : tIf tt ta tb σ H Q := h
theorem y_nil (h : QA [] H) : tNil σ H QA := h
theorem y_cons {tr : TA} (h : ta σ H fun x H1 => tr σ H1 fun xs H2 => QA (x :: xs) H2) : tCons ta tr σ H QA := h
theorem y_call {sp : Sp} {dvs : List V} {E : XK} {t : TA} (h : t σ H fun vs H1 => sp (vs ++ dvs) H1 Q E) : tCall sp dvs E t σ H Q := h
theorem y_cb {r : List V → Hp → VK → Prop} {t : TA} (h : t σ H fun vs H1 => r vs H1 Q) : tCB r t σ H Q := h
theorem y_bm {T : String} {r : V → List V → Hp → VK → Prop} {t : TA} (h : ta σ H fun x H1 => tyV K T x H1 ∧ t σ H1 fun xs H2 => r x xs H2 Q) : tBM K T r ta t σ H Q := h
theorem y_bm0 {T : String} {r : V → List V → Hp → VK → Prop} (h : ta σ H fun x H1 => tyV K T x H1 ∧ r x [] H1 Q) : tBM0 K T r ta σ H Q := h
theorem y_sl {r : V → Option Int → Option Int → Hp → VK → Prop} {tl th : TO} (h : te σ H fun x H1 => tl σ H1 fun l H2 => th σ H2 fun u H3 => r x l u H3 Q) : tSl r te tl th σ H Q := h
theorem y_nopart {QO : Option Int → Hp → Prop} (h : QO none H) : tNoPart σ H QO := h
/-- a part of a slice, an int -/
def PtK (QO : Option Int → Hp → Prop) : VK := fun x H1 => ∃ i, x = .int i ∧ QO (some i) H1
theorem y_part {QO : Option Int → Hp → Prop} (h : te σ H (PtK QO)) : tPart te σ H QO := h
theorem y_ptK {QO : Option Int → Hp → Prop} {j : Int} (h : QO (some j) H) : PtK QO (.int j) H := ⟨j, rfl, h⟩

/-! ### tests -/
/-- a bool is wanted -/
def BlK (QT : Bool → Hp → Prop) : VK := fun x H' => ∃ k, x = .bl k ∧ QT k H'
theorem y_blK {b : Bool} (h : QT b H) : BlK QT (.bl b) H := ⟨b, rfl, h⟩
theorem y_test (h : te σ H (BlK QT)) : tTest te σ H QT := h
theorem y_tB (h : te σ H (BlK QT)) : tB te σ H QT := h
theorem y_and (h : tt σ H fun c H1 => if c = true then tu σ H1 QT else QT false H1) : tAnd tt tu σ H QT := h
theorem y_or (h : tt σ H fun c H1 => if c = true then QT true H1 else tu σ H1 QT) : tOr tt tu σ H QT := h
theorem y_not (h : tt σ H fun c H1 => QT (!c) H1) : tNot tt σ H QT := h
/-- a bool among values: and, or, not -/
def AndK (tb : TE) (σ : L2.St) (Q : VK) : VK := fun x H1 => ∃ c, x = .bl c ∧ if c = true then tb σ H1 Q else Q (.bl false) H1
theorem y_andV (h : ta σ H (AndK tb σ Q)) : tAndV ta tb σ H Q := h
theorem y_andK {b : Bool} (h : if b = true then tb σ H Q else Q (.bl false) H) : AndK tb σ Q (.bl b) H := ⟨b, rfl, h⟩
def OrK (tb : TE) (σ : L2.St) (Q : VK) : VK := fun x H1 => ∃ c, x = .bl c ∧ if c = true then Q (.bl true) H1 else tb σ H1 Q
theorem y_orV (h : ta σ H (OrK tb σ Q)) : tOrV ta tb σ H Q := h
theorem y_orK {b : Bool} (h : if b = true then Q (.bl true) H else tb σ H Q) : OrK tb σ Q (.bl b) H := ⟨b, rfl, h⟩
def NotK (Q : VK) : VK := fun x H1 => ∃ c, x = .bl c ∧ Q (.bl (!c)) H1
theorem y_notV (h : ta σ H (NotK Q)) : tNotV ta σ H Q := h
theorem y_notK {b : Bool} (h : Q (.bl (!b)) H) : NotK Q (.bl b) H := ⟨b, rfl, h⟩
def ChK (r' : R2) (tc : TE) (σ : L2.St) (y : V) (Q : VK) : VK := fun z H3 => ∃ k, z = .bl k ∧ (if k = true then tc σ H3 fun w' H4 => r' y w' H4 Q else Q (.bl false) H3)
theorem y_chain (h : ta σ H fun x H1 => tb σ H1 fun y H2 => r x y H2 (ChK r' tc σ y Q)) : tChain r r' ta tb tc σ H Q := h
theorem y_chK {b : Bool} (h : if b = true then tc σ H fun w' H4 => r' y w' H4 Q else Q (.bl false) H) : ChK r' tc σ y Q (.bl b) H := ⟨b, rfl, h⟩

theorem y_ite {p : Prop} [Decidable p] {A B : Prop} (h1 : p → A) (h2 : ¬ p → B) : if decide p = true then A else B := by
  by_cases h : p
  · rw [if_pos (decide_eq_true h)]; exact h1 h
  · rw [if_neg (by simp [h])]; exact h2 h
theorem y_iteN {p : Prop} [Decidable p] {A B : Prop} (h1 : ¬ p → A) (h2 : p → B) : if (!decide p) = true then A else B := by
  by_cases h : p
  · rw [if_neg (by simp [h])]; exact h2 h
  · rw [if_pos (by simp [h])]; exact h1 h
theorem y_iteB {b : Bool} {A B : Prop} (h1 : b = true → A) (h2 : b = false → B) : if b = true then A else B := by
  cases b
  · rw [if_neg (by decide)]; exact h2 rfl
  · rw [if_pos rfl]; exact h1 rfl
theorem y_iteI {a b : Int} {A B : Prop} (h1 : a = b → A) (h2 : a ≠ b → B) : if decide (V.int a = V.int b) = true then A else B := y_ite (fun h => h1 (V.int.inj h)) fun h => h2 fun z => h (by rw [z])
theorem y_iteIN {a b : Int} {A B : Prop} (h1 : a ≠ b → A) (h2 : a = b → B) : if (!decide (V.int a = V.int b)) = true then A else B := y_iteN (fun h => h1 fun z => h (by rw [z])) fun h => h2 (V.int.inj h)
theorem y_iteS {a b : Str} {A B : Prop} (h1 : a = b → A) (h2 : a ≠ b → B) : if decide (V.str a = V.str b) = true then A else B := y_ite (fun h => h1 (V.str.inj h)) fun h => h2 fun z => h (by rw [z])
theorem y_true {A B : Prop} (h : A) : if true = true then A else B := by rw [if_pos rfl]; exact h
theorem y_notT {A B : Prop} (h : B) : if (!true) = true then A else B := by rw [if_neg (by decide)]; exact h
theorem y_notF {A B : Prop} (h : A) : if (!false) = true then A else B := by rw [if_pos (by decide)]; exact h
theorem y_false {A B : Prop} (h : B) : if false = true then A else B := by rw [if_neg (by decide)]; exact h

/-! ### operators on values -/
theorem y_addI {i j : Int} (q : Q (.int (i + j)) H) : rAddU K (.int i) (.int j) H Q := .inl ⟨i, j, rfl, rfl, q⟩
theorem y_addS {i j : Str} (h : i.length + j.length ≤ sizeLine) (q : Q (.str (i ++ j)) H) : rAddU K (.str i) (.str j) H Q := .inr (.inl ⟨i, j, rfl, rfl, h, q⟩)
theorem y_subI {i j : Int} (q : Q (.int (i - j)) H) : rSubI (.int i) (.int j) H Q := ⟨i, j, rfl, rfl, q⟩
theorem y_mulI {i j : Int} (h : CMul i j) (q : Q (.int (i * j)) H) : rMulI (.int i) (.int j) H Q := ⟨i, j, rfl, rfl, h, q⟩
theorem y_divI {i j : Int} (h : CDivW i j) (q : Q (.int (i / j)) H) : rDivI (.int i) (.int j) H Q := ⟨i, j, rfl, rfl, h, q⟩
theorem y_modI {i j : Int} (h : 0 < j) (q : Q (.int (i % j)) H) : rModI (.int i) (.int j) H Q := ⟨i, j, rfl, rfl, h, q⟩
theorem y_powI {i j : Int} (h : CPowW i j) (q : Q (.int (i ^ j.toNat)) H) : rPowI (.int i) (.int j) H Q := ⟨i, j, rfl, rfl, h, q⟩
theorem y_negI {i : Int} (q : Q (.int (-i)) H) : rNegI (.int i) H Q := ⟨i, rfl, q⟩
theorem y_ltI {i j : Int} (q : Q (.bl (decide (i < j))) H) : rLtU (.int i) (.int j) H Q := .inl ⟨i, j, rfl, rfl, q⟩
theorem y_ltS {i j : Str} (q : Q (.bl (decide (i.cps.toList < j.cps.toList))) H) : rLtU (.str i) (.str j) H Q := .inr ⟨i, j, rfl, rfl, q⟩
theorem y_leI {i j : Int} (q : Q (.bl (decide (i ≤ j))) H) : rLeU (.int i) (.int j) H Q := .inl ⟨i, j, rfl, rfl, q⟩
theorem y_leS {i j : Str} (q : Q (.bl (!decide (j.cps.toList < i.cps.toList))) H) : rLeU (.str i) (.str j) H Q := .inr ⟨i, j, rfl, rfl, q⟩
theorem y_gtI {i j : Int} (q : Q (.bl (decide (j < i))) H) : rGtI (.int i) (.int j) H Q := ⟨i, j, rfl, rfl, q⟩
theorem y_geI {i j : Int} (q : Q (.bl (decide (j ≤ i))) H) : rGeI (.int i) (.int j) H Q := ⟨i, j, rfl, rfl, q⟩
theorem y_eqI {i j : Int} (q : Q (.bl (decide (V.int i = V.int j))) H) : rEqU K (.int i) (.int j) H Q := .inl ⟨rfl, q⟩
theorem y_eqS {i j : Str} (q : Q (.bl (decide (V.str i = V.str j))) H) : rEqU K (.str i) (.str j) H Q := .inl ⟨rfl, q⟩
theorem y_neI {i j : Int} (q : Q (.bl (!decide (V.int i = V.int j))) H) : rNeU K (.int i) (.int j) H Q := .inl ⟨rfl, q⟩
theorem y_neS {i j : Str} (q : Q (.bl (!decide (V.str i = V.str j))) H) : rNeU K (.str i) (.str j) H Q := .inl ⟨rfl, q⟩
theorem y_isN0 (q : Q (.bl true) H) : rIsNU .non .non H Q := ⟨rfl, q⟩
theorem y_isN1 {a : Addr} (q : Q (.bl false) H) : rIsNU (.ref a) .non H Q := ⟨rfl, q⟩
theorem y_isN2 {a : Int} (q : Q (.bl false) H) : rIsNU (.int a) .non H Q := ⟨rfl, q⟩
theorem y_notN0 (q : Q (.bl false) H) : rNotNU .non .non H Q := ⟨rfl, q⟩
theorem y_notN1 {a : Addr} (q : Q (.bl true) H) : rNotNU (.ref a) .non H Q := ⟨rfl, q⟩
theorem y_notN2 {a : Int} (q : Q (.bl true) H) : rNotNU (.int a) .non H Q := ⟨rfl, q⟩
theorem y_neD {d e : PyData} (h1 : Dp K H x d) (h2 : Dp K H y e) (s1 : SeqAt.shaped d = true) (s2 : SeqAt.shaped e = true) (q : Q (.bl (!PyData.eqv d e)) H) : rNeU K x y H Q := .inr (.inl ⟨d, e, h1, h2, s1, s2, q⟩)
/-- != of two tuples that are alike -/
theorem y_neA {n : Nat} {a b : Addr} {xs ys : List V} (hn : n ≤ 60) (h1 : SqT K H a xs) (h2 : SqT K H b ys) (h : Paired (Al K H n) xs ys) (q : Q (.bl false) H) : rNeU K (.ref a) (.ref b) H Q := .inr (.inr (.inl ⟨n, a, b, xs, ys, hn, rfl, rfl, h1, h2, h, q⟩))
/-- a list and the empty list -/
theorem y_eqE {a b : Addr} {xs : List V} (h1 : SqL K H a xs) (h2 : SqL K H b []) (q : Q (.bl xs.isEmpty) H) : rEqU K (.ref a) (.ref b) H Q := .inr (.inr (.inr ⟨a, b, xs, rfl, rfl, h1, h2, q⟩))
theorem y_neE {a b : Addr} {xs : List V} (h1 : SqL K H a xs) (h2 : SqL K H b []) (q : Q (.bl (!xs.isEmpty)) H) : rNeU K (.ref a) (.ref b) H Q := .inr (.inr (.inr ⟨a, b, xs, rfl, rfl, h1, h2, q⟩))

/-! ### built-in calls -/
def rLenU (K : PySem.W.Frag) : List V → Hp → VK → Prop := fun xs H Q => (∃ x n, xs = [x] ∧ LenV K x H n ∧ Q (.int n) H) ∨ ∃ a kvs, xs = [V.ref a] ∧ Rd H a (.dK kvs) ∧ Q (.int kvs.length) H
/-- len of a dict, locked perhaps -/
theorem call_lenR {X : Cx} : CallR X (.builtin "len") (fun xs H Q => ∃ a kvs, xs = [V.ref a] ∧ Rd H a (.dK kvs) ∧ Q (.int kvs.length) H) := by
  intro pins s σ H xs us Q I r h
  obtain ⟨a, kvs, rfl, ha, q⟩ := h
  obtain ⟨u, rfl, ru⟩ := vals1 r
  obtain rfl : u = Value.ref a := ru
  exact d_len I ha fun t s2 I2 => ⟨.int kvs.length, H, I2, ⟨t, rfl⟩, q⟩
theorem call_lenU {X : Cx} {K : PySem.W.Frag} (hK : X.K = K) : CallR X (.builtin "len") (rLenU K) := hK ▸ CallR.or call_len call_lenR
theorem y_lenL {a : Addr} {xs : List V} (h : SqL K H a xs) (q : Q (.int xs.length) H) : rLenU K [.ref a] H Q := .inl ⟨_, _, rfl, .inl ⟨xs, h, rfl⟩, q⟩
theorem y_lenT {a : Addr} {xs : List V} (h : SqT K H a xs) (q : Q (.int xs.length) H) : rLenU K [.ref a] H Q := .inl ⟨_, _, rfl, .inr ⟨xs, h, rfl⟩, q⟩
theorem y_lenS {z : Str} (h : z.length ≤ sizeLine) (q : Q (.int z.length) H) : rLenU K [.str z] H Q := .inl ⟨_, _, rfl, ⟨h, rfl⟩, q⟩
theorem y_lenD {a : Addr} {kvs : List (Key × V)} (h : Rd H a (.dK kvs)) (q : Q (.int kvs.length) H) : rLenU K [.ref a] H Q := .inr ⟨a, kvs, rfl, h, q⟩
def rMax2 : List V → Hp → VK → Prop := fun xs H Q => ∃ i j, xs = [.int i, .int j] ∧ Q (.int (if j > i then j else i)) H
def rMin2 : List V → Hp → VK → Prop := fun xs H Q => ∃ i j, xs = [.int i, .int j] ∧ Q (.int (if j < i then j else i)) H
theorem call_max2U {X : Cx} (hc : X.calm = true) : CallR X (.builtin "max") rMax2 := call_max2 hc
theorem y_max2 {i j : Int} (q : Q (.int (max i j)) H) : rMax2 [.int i, .int j] H Q := ⟨i, j, rfl, by
  have e : (if j > i then j else i) = max i j := by omega
  rw [e]; exact q⟩
theorem y_min2 {i j : Int} (q : Q (.int (min i j)) H) : rMin2 [.int i, .int j] H Q := ⟨i, j, rfl, by
  have e : (if j < i then j else i) = min i j := by omega
  rw [e]; exact q⟩
def rListOf (K : PySem.W.Frag) : List V → Hp → VK → Prop := fun xs H Q => ∃ p ys, xs = [.ref p] ∧ (SqL K H p ys ∨ SqT K H p ys) ∧ ∀ l, H l = none → Q (.ref l) (upd H l (.lst ys))
theorem call_listU {X : Cx} {K : PySem.W.Frag} (hK : X.K = K) : CallR X (.type "list") (rListOf K) := hK ▸ call_list_of
/-! ### subscripts -/
theorem y_ixL {p : Addr} {xs : List V} {i : Int} (h : SqL K H p xs) (ha : atI xs i = some v) (q : Q v H) : rIxU K (.ref p) (.int i) H Q := .inl (.inl ⟨p, xs, i, v, rfl, rfl, h, ha, q⟩)
theorem y_ixT {p : Addr} {xs : List V} {i : Int} (h : SqT K H p xs) (ha : atI xs i = some v) (q : Q v H) : rIxU K (.ref p) (.int i) H Q := .inl (.inr (.inl ⟨p, xs, i, v, rfl, rfl, h, ha, q⟩))
theorem y_ixS {z : Str} {i : Int} {c : Nat} (h : z.length ≤ sizeLine) (ha : atI z.cps.toList i = some c) (q : Q (.str ⟨#[c]⟩) H) : rIxU K (.str z) (.int i) H Q := .inl (.inr (.inr ⟨z, i, c, rfl, rfl, h, ha, q⟩))
theorem y_ixD {a : Addr} {kvs : List (Key × V)} {k : Key} (h : Rd H a (.dK kvs)) (hk : y = kV k) (hv : valV kvs k = some v) (q : Q v H) : rIxU K (.ref a) y H Q := .inr ⟨a, v, rfl, .inl ⟨kvs, k, h, hk, hv.symm⟩, q⟩
theorem y_inD {a : Addr} {kvs : List (Key × V)} {k : Key} (h : Rd H a (.dK kvs)) (hk : x = kV k) (q : Q (.bl (valV kvs k).isSome) H) : rInU K x (.ref a) H Q := .inr (.inr ⟨a, _, rfl, .inl ⟨kvs, k, h, hk, rfl⟩, q⟩)
theorem y_notInD {a : Addr} {kvs : List (Key × V)} {k : Key} (h : Rd H a (.dK kvs)) (hk : x = kV k) (q : Q (.bl (!(valV kvs k).isSome)) H) : rNotInU K x (.ref a) H Q := .inr (.inr ⟨a, _, rfl, .inl ⟨kvs, k, h, hk, rfl⟩, q⟩)
theorem y_notInL {a : Addr} {xs : List V} (h : SqL K H a xs) (hx : flatV x = true) (hf : xs.all flatV = true) (q : Q (.bl (!inV x xs)) H) : rNotInU K x (.ref a) H Q := .inl ⟨a, xs, rfl, .inl h, hx, hf, q⟩
theorem y_inSg {c : Nat} {z : Str} (q : Q (.bl (decide (c ∈ z.cps.toList))) H) : rInU K (.str ⟨#[c]⟩) (.str z) H Q := .inr (.inl ⟨c, z, rfl, rfl, q⟩)
theorem y_notInSg {c : Nat} {z : Str} (q : Q (.bl (!decide (c ∈ z.cps.toList))) H) : rNotInU K (.str ⟨#[c]⟩) (.str z) H Q := .inr (.inl ⟨c, z, rfl, rfl, q⟩)
end

/-! ### with the state -/
section
variable {K : PySem.W.Frag} {σ : L2.St} {e : En} {B H : Hp} {L : Led} {Q : VK} {ta tb te : TE} {tl : TA} {v x y : V} {xs ys : List V} {a b p : Addr} {o : HO} {QT : Bool → Hp → Prop}

/-- a thing is laid: it is wanted of each place -/
def NewK (o : HO) (Q : VK) : Hp → Prop := fun H => ∀ p, H p = none → Q (.ref p) (upd H p o)
/-- .. never changed again -/
theorem y_newI (S : Sy e B H L) (k : ∀ p B' H', Same B B' → B' p = some o → e.H p = none → Sy e B' H' L → Q (.ref p) H') : NewK o Q H := fun p hp => by
  obtain ⟨s1, s2⟩ := S.newI (o := o) hp
  refine k p _ _ s1 upd_same ?_ s2
  cases q : e.H p with
  | none => rfl
  | some x => exact absurd hp (S.there p (by rw [q]; simp))
/-- .. that may be changed -/
theorem y_newM (S : Sy e B H L) (k : ∀ p H', e.H p = none → Sy e B H' ((p, o) :: L) → Q (.ref p) H') (no : NT o := by intro _ z; cases z) : NewK o Q H := fun p hp => by
  obtain ⟨s1, s2⟩ := S.newM (o := o) hp no
  exact k p _ s1 s2
/-- .. behind the first of the ledger -/
theorem y_newM1 {q : Addr × HO} (S : Sy e B H (q :: L)) (k : ∀ p H', e.H p = none → Sy e B H' (q :: (p, o) :: L) → Q (.ref p) H') (no : NT o := by intro _ z; cases z) : NewK o Q H := y_newM S (fun p H' h S' => k p H' h S'.swap) no
theorem y_tup (h : tl σ H fun xs H1 => xs.length ≤ sizeLine ∧ NewK (.tup xs) Q H1) : tTup tl σ H Q := h
theorem y_lst (h : tl σ H fun xs H1 => xs.length ≤ sizeLine ∧ NewK (.lst xs) Q H1) : tLst tl σ H Q := h
theorem y_catL {l b : Addr} (S : Sy e B H L) (h1 : H l = some (.lst xs)) (h2 : H b = some (.lst ys)) (hl : xs.length + ys.length ≤ sizeLine) (q : NewK (.lst (xs ++ ys)) Q H) : rAddU K (.ref l) (.ref b) H Q := .inr (.inr (.inl ⟨l, b, xs, ys, rfl, rfl, h1, h2, hl, q⟩))
theorem y_listOf {p : Addr} (h : SqL K H p xs) (q : NewK (.lst xs) Q H) : rListOf K [.ref p] H Q := ⟨p, xs, rfl, .inl h, q⟩
theorem y_slL {p : Addr} {lo hi : Option Int} (h : SqL K H p xs) (q : NewK (.lst (cutV xs lo hi)) Q H) : rSlU K (.ref p) lo hi H Q := .inl ⟨p, xs, rfl, h, q⟩
theorem y_slS {z : Str} {lo hi : Option Int} (h : z.length ≤ sizeLine) (q : Q (.str (cutS z lo hi)) H) : rSlU K (.str z) lo hi H Q := .inr ⟨z, rfl, h, q⟩

/-! ### what stands -/
theorem Sy.d (S : Sy e B H L) {dd : PyData} (r : Dp K B v dd) : Dp K H v dd := Sub.d S.bh r
theorem Sy.l (S : Sy e B H L) (r : SqL K B a xs) : SqL K H a xs := S.bh.l r
theorem Sy.t (S : Sy e B H L) (r : SqT K B a xs) : SqT K H a xs := S.bh.t r
theorem Sy.rd (S : Sy e B H L) {u : HO} (r : B a = some u) : Rd H a u := S.bh.rd (.inl r)
theorem Sy.lst (S : Sy e B H L) (r : B a = some (.lst xs)) : H a = some (.lst xs) := S.bh.lst r
theorem Sy.tup (S : Sy e B H L) (r : B a = some (.tup xs)) : H a = some (.tup xs) := S.bh.tup r
theorem sqL (h : H a = some (.lst xs)) : SqL K H a xs := .inl (.inl h)
theorem sqT (h : H a = some (.tup xs)) : SqT K H a xs := .inl (.inl h)

/-! ### list methods on the ledger -/
theorem tyL {l : Addr} (h : H l = some (.lst xs)) : tyV K "list" (.ref l) H := .inl ⟨rfl, _, .inl (.inl h)⟩
/-- pop at a place -/
theorem y_popAt1 {l : Addr} {q : Addr × HO} {i : Int} {j : Nat} (S : Sy e B H (q :: (l, .lst xs) :: L)) (hi : i = (j : Int)) (hj : xs[j]? = some v) (hs : xs.length ≤ sizeLine) (k : ∀ H', Sy e B H' (q :: (l, .lst (xs.eraseIdx j)) :: L) → Q v H') : rPopAt (.ref l) [.int i] H Q := by
  have h1 : j < xs.length := (List.getElem?_eq_some_iff.mp hj).1
  have h2 : sizeLine = 16777216 := sizeLine_eq
  refine ⟨l, xs, i, j, v, rfl, rfl, S.g1, by omega, by omega, ?_, hj, k _ (S.w1 _)⟩
  rw [hi]; exact PySem.StrLaws.seqIndex_nonneg (by omega) (by omega)
/-- o[i] = v -/
theorem y_gsub {to ti : TE} {tset : TSet} {N : L2.St → Hp → Prop} (h : to σ H fun o H1 => ti σ H1 fun i H2 => tset o i v H2 fun H3 => N σ H3) : gSub to ti tset v σ H N := h
theorem y_setL0 {l : Addr} {i : Int} {j : Nat} {N : Hp → Prop} (S : Sy e B H ((l, .lst xs) :: L)) (hj : ixN xs.length i = some j) (k : ∀ H', Sy e B H' ((l, .lst (xs.set j v)) :: L) → N H') : rSetU (.ref l) (.int i) v H N := .inl ⟨l, xs, i, j, rfl, rfl, S.g0, hj, k _ (S.w0 _)⟩
/-! ### loops -/
def ForG (J : It) (g : TG) (tb : TS) (D : Ends) (σ : L2.St) (H : Hp) : Prop := ∃ W : Nat → Nat → L2.St → Hp → Prop, (∃ m, W 0 m σ H) ∧ ∀ i m σ H, W i m σ H →
  (J.stop i H ∧ D.nx σ H) ∨ (J.go i H ∧ ∃ N : L2.St → Hp → Prop, (∀ σ' H', N σ' H' → ∃ m', m' < m ∧ W (i + 1) m' σ' H') ∧ ∀ x H', J.yld i H x H' → g x σ H' fun σ2 H2 => tb { D with nx := N, ct := N, bk := D.nx } σ2 H2)
theorem y_for {wi : TI} {g : TG} {tb : TS} {D : Ends} (h : wi σ H fun J H1 => ForG J g tb D σ H1) : tFor wi g tb D σ H := h
theorem y_forG {J : It} {n : Nat} {G : Hp → Prop} {Y : Nat → Hp → V → Hp → Prop} {g : TG} {tb : TS} {nx bk ct : L2.St → Hp → Prop} {rt : VK} (w : Walk J n G Y) (Pv : Nat → L2.St → Hp → Prop) (h0 : Pv 0 σ H) (hG : ∀ i σ H, i ≤ n → Pv i σ H → G H)
    (hs : ∀ i x σ H H', i < n → Pv i σ H → Y i H x H' → g x σ H' fun σ2 H2 => tb ⟨Pv (i + 1), rt, nx, Pv (i + 1)⟩ σ2 H2) (hd : ∀ σ H, Pv n σ H → nx σ H) : ForG J g tb ⟨nx, rt, bk, ct⟩ σ H :=
  for_it w (D := ⟨nx, rt, bk, ct⟩) Pv h0 hG hs hd
def LcG (J : It) (g : TG) (tt : TT) (te : TE) (vs : List Nat) (σ : L2.St) (Q : VK) : Hp → Prop := fun H1 => ∀ D, H1 D = none → ∃ W : Nat → Nat → Hp → Prop, (∃ m, W 0 m (upd H1 D (.lst []))) ∧ ∀ i m H, W i m H →
  (J.stop i H ∧ Q (.ref D) H) ∨ (J.go i H ∧ ∃ Nx : Hp → Prop, (∀ H', Nx H' → ∃ m', m' < m ∧ W (i + 1) m' H') ∧ ∀ x H', J.yld i H x H' → g x (wipe σ vs) H' fun σ2 H2 => wipe σ2 vs = wipe σ vs ∧ tt σ2 H2 fun b H3 =>
    if b = true then te σ2 H3 fun y H4 => ∃ acc, H4 D = some (.lst acc) ∧ acc.length < sizeLine ∧ Nx (upd H4 D (.lst (acc ++ [y]))) else Nx H3)
theorem y_lc {wi : TI} {g : TG} {tt : TT} {vs : List Nat} (h : wi σ H fun J H1 => LcG J g tt te vs σ Q H1) : tLc wi g tt te vs σ H Q := h
/-- the item is put, the item is left out -/
def LcK (e : En) (B : Hp) (D : Addr) (Pv : Nat → Hp → List V → Led → Prop) (i : Nat) (y : V) (H4 : Hp) : Prop := ∃ B4 acc L4, Sy e B4 H4 ((D, .lst acc) :: L4) ∧ Same B B4 ∧ acc.length < sizeLine ∧ Pv (i + 1) B4 (acc ++ [y]) L4
def LcN (e : En) (B : Hp) (D : Addr) (Pv : Nat → Hp → List V → Led → Prop) (i : Nat) (H4 : Hp) : Prop := ∃ B4 acc L4, Sy e B4 H4 ((D, .lst acc) :: L4) ∧ Same B B4 ∧ Pv (i + 1) B4 acc L4
theorem y_lcG {J : It} {n : Nat} {G : Hp → Prop} {Y : Nat → Hp → V → Hp → Prop} {g : TG} {tt : TT} {vs : List Nat} (w : Walk J n G Y) (S : Sy e B H L) (Pv : Nat → Hp → List V → Led → Prop) (h0 : Pv 0 B [] L)
    (hG : ∀ i B1 H1 acc L1 D, Pv i B1 acc L1 → Same B B1 → Sy e B1 H1 ((D, .lst acc) :: L1) → G H1)
    (hs : ∀ i x B1 H1 H1' acc L1 D (Kp : VK) (Kn : Hp → Prop), i < n → Pv i B1 acc L1 → Same B B1 → e.H D = none → Sy e B1 H1 ((D, .lst acc) :: L1) → Y i H1 x H1' → (∀ y H4, LcK e B D Pv i y H4 → Kp y H4) → (∀ H4, LcN e B D Pv i H4 → Kn H4) →
      g x (wipe σ vs) H1' fun σ2 H2 => wipe σ2 vs = wipe σ vs ∧ tt σ2 H2 fun b H3 => if b = true then te σ2 H3 Kp else Kn H3)
    (hd : ∀ B1 H1 acc L1 D, Pv n B1 acc L1 → Same B B1 → e.H D = none → Sy e B1 H1 ((D, .lst acc) :: L1) → Q (.ref D) H1) : LcG J g tt te vs σ Q H := by
  intro D hD
  obtain ⟨s1, s2⟩ := S.newM (o := .lst []) hD
  refine lc_it w (fun i H1 => ∃ B1 acc L1, Sy e B1 H1 ((D, .lst acc) :: L1) ∧ Same B B1 ∧ Pv i B1 acc L1) ⟨B, [], L, s2, Same.refl B, h0⟩ ?_ ?_ ?_
  · rintro i H1 hi ⟨B1, acc, L1, S1, b1, p1⟩
    exact hG i B1 H1 acc L1 D p1 b1 S1
  · rintro i x H1 H1' hi ⟨B1, acc, L1, S1, b1, p1⟩ hy
    refine hs i x B1 H1 H1' acc L1 D _ _ hi p1 b1 s1 S1 hy (fun y H4 q => ?_) (fun H4 q => q)
    obtain ⟨B4, acc4, L4, S4, b4, l4, p4⟩ := q
    exact ⟨acc4, S4.g0, l4, B4, _, L4, S4.w0 _, b4, p4⟩
  · rintro H1 ⟨B1, acc, L1, S1, b1, p1⟩
    exact hd B1 H1 acc L1 D p1 b1 s1 S1
end
end Y
/-! Defs by their names, and their promises in the words of the state. -/
namespace Y
open PySem PySem.Spec PyProof.Rows L2

/-- the def called x keeps the promise sp (every parameter is given by place) -/
def Ok (P : Program) (w : World) (K : PySem.W.Frag) (mg : Str → Option Value) (base : Heap) (k : Nat) (x : Str) (ps : List Str) (sp : Sp) : Prop :=
  ∃ f fd, mg x = some (.ref f) ∧ PySem.W.keepIn K (.ref f) = true ∧ Binds K fd ps [] ∧ FnOk P w K mg base CX0 k f fd ps sp
/-- .. the last ones by their defaults -/
def OkD (P : Program) (w : World) (K : PySem.W.Frag) (mg : Str → Option Value) (base : Heap) (k : Nat) (x : Str) (ps : List Str) (dvs : List V) (sp : Sp) : Prop :=
  ∃ f fd ds, mg x = some (.ref f) ∧ PySem.W.keepIn K (.ref f) = true ∧ Vals dvs ds ∧ Binds K fd ps ds ∧ FnOk P w K mg base CX0 k f fd ps sp
/-- .. n by place, those called ks by name -/
def OkN (P : Program) (w : World) (K : PySem.W.Frag) (mg : Str → Option Value) (base : Heap) (k : Nat) (x : Str) (ps : List Str) (n : Nat) (ks : List Str) (gV : List V → List V → List V) (sp : Sp) : Prop :=
  ∃ f fd g, mg x = some (.ref f) ∧ PySem.W.keepIn K (.ref f) = true ∧ KBn K fd ps n ks g gV ∧ FnOk P w K mg base CX0 k f fd ps sp
section
variable {X : Cx} {k : Nat} {x : Str} {ps : List Str} {sp : Sp} {p pos : Pos} {e : Expr} {es : List Expr} {t tk : TA} {dvs : List V} {n : Nat} {ks : List Str} {gV : List V → List V → List V} {kws : List Keyword}
theorem pe_callO (O : Ok X.prog X.w X.K X.mg X.base k x ps sp) (hr : Room k X.A) (hg : Gl X x) (ha : PA X (e :: es) t) (hdb : (x == ("__debug__" : Str)) = false := by decide) (he : starEach (e :: es) X.env = (false, eval e X.env) :: starEach es X.env := by rfl) (hpl : (backTo pos (starEach es X.env)).any (·.1) = false := by rfl) :
    PE X (.Call (.Name x p) (e :: es) [] pos) (tCall sp [] E0 t) := by
  obtain ⟨f, fd, h1, h2, h3, h4⟩ := O
  exact pe_call h4 hr hg h1 h2 h3 .nil pass0 ha hdb he hpl
end
section
variable {P : Program} {w : World} {K : PySem.W.Frag} {mg : Str → Option Value} {base : Heap} {x : Str} {st : Stmt} {kws : List (Str × V)} {N ps : List Str} {k : Nat} {φ : Ph} {f : Addr} {dvs : List V}
/-- THE RULE for a def's body -/
theorem fnY {fd : FuncData} (F : FunD K x x (defArgs st) (defBody st) (defScope st) dvs kws f fd) (S : FnScope N ps (defScope st)) (len : ∀ B vs L k, φ B vs L k → vs.length = ps.length)
    (body : ∀ (cdv : Value) (A : Around) (outer : List Env) (s : Shared) (H : Hp) (vs : List V) (Q : VK) (E : XK) (B : Hp) (L : Led) (e : En), e.Z = [] → e.H = H → Room k (A.deeper (envOfC x (defScope st) s.heap.objs.size f cdv)) → Sy e B H L →
      (φ B vs L fun B' v L' => ∀ H', Sy e B' H' L' → Q v H') →
      ∃ t, PSs (cxOf CX0 P w K mg base N x (defScope st) f cdv A outer s H E).nox (defBody st) t ∧ t ⟨fun _ H' => Q .non H', Q, fun _ _ => False, fun _ _ => False⟩ (start N vs) H) : FnOk P w K mg base CX0 (k + 1) f fd ps (spY φ) := by
  refine F.ok S (fun vs H Q E h => ?_) (fun cdv A outer s H vs Q E hr h => ?_)
  · obtain ⟨B, L, _, h⟩ := h
    exact len _ _ _ _ h
  · obtain ⟨B, L, hh, h⟩ := h
    obtain ⟨t, h1, h2⟩ := body cdv A outer s H vs Q E B L _ rfl rfl hr hh.start h
    exact ⟨t, PSs.nox h1, h2⟩
theorem Ok.mk (F : ∃ fd, FunD K x x (defArgs st) (defBody st) (defScope st) [] kws f fd) (g : mg x = some (.ref f)) (S : FnScope N ps (defScope st))
    (hb : ∀ (kV doc pm : Value) (an : Option Addr) (cdv ct : Value) (us : List Value), us.length = ps.length → bindArgs (PySem.W.fnOf x x (defArgs st) (defBody st) (defScope st) .none kV doc pm an cdv ct) ⟨us, []⟩ = pure (ps.zip us))
    (len : ∀ B vs L k, φ B vs L k → vs.length = ps.length)
    (body : ∀ (cdv : Value) (A : Around) (outer : List Env) (s : Shared) (H : Hp) (vs : List V) (Q : VK) (E : XK) (B : Hp) (L : Led) (e : En), e.Z = [] → e.H = H → Room k (A.deeper (envOfC x (defScope st) s.heap.objs.size f cdv)) → Sy e B H L →
      (φ B vs L fun B' v L' => ∀ H', Sy e B' H' L' → Q v H') →
      ∃ t, PSs (cxOf CX0 P w K mg base N x (defScope st) f cdv A outer s H E).nox (defBody st) t ∧ t ⟨fun _ H' => Q .non H', Q, fun _ _ => False, fun _ _ => False⟩ (start N vs) H) : Ok P w K mg base (k + 1) x ps (spY φ) := by
  obtain ⟨fd, F⟩ := F
  exact ⟨f, fd, g, F.kp, F.bindsN hb, fnY F S len body⟩
theorem Ok.of {sp : Sp} (F : ∃ fd, FunD K x x (defArgs st) (defBody st) (defScope st) [] kws f fd) (g : mg x = some (.ref f))
    (hb : ∀ (kV doc pm : Value) (an : Option Addr) (cdv ct : Value) (us : List Value), us.length = ps.length → bindArgs (PySem.W.fnOf x x (defArgs st) (defBody st) (defScope st) .none kV doc pm an cdv ct) ⟨us, []⟩ = pure (ps.zip us))
    (h : ∀ fd, FunD K x x (defArgs st) (defBody st) (defScope st) [] kws f fd → FnOk P w K mg base CX0 k f fd ps sp) : Ok P w K mg base k x ps sp := by
  obtain ⟨fd, F⟩ := F
  exact ⟨f, fd, g, F.kp, F.bindsN hb, h fd F⟩
/-- called with n by place and those of ks by name, no defaults -/
theorem OkN.of {sp : Sp} {n : Nat} {ks : List Str} (gA : {α : Type} → List α → List α → List α) (F : ∃ fd, FunD K x x (defArgs st) (defBody st) (defScope st) [] kws f fd) (g : mg x = some (.ref f))
    (rel : ∀ {vs zs : List V} {us ws : List Value}, Vals vs us → Vals zs ws → Vals (gA vs zs) (gA us ws))
    (hb : ∀ (kV doc pm : Value) (an : Option Addr) (cdv ct : Value) (us ws : List Value), us.length = n → ws.length = ks.length → bindArgs (PySem.W.fnOf x x (defArgs st) (defBody st) (defScope st) .none kV doc pm an cdv ct) ⟨us, ks.zip ws⟩ = pure (ps.zip (gA us ws)))
    (h : ∀ fd, FunD K x x (defArgs st) (defBody st) (defScope st) [] kws f fd → FnOk P w K mg base CX0 k f fd ps sp) : OkN P w K mg base k x ps n ks (fun vs zs => gA vs zs) sp := by
  obtain ⟨fd, F⟩ := F
  refine ⟨f, fd, fun us ws => gA us ws, g, F.kp, ⟨fun s us ws _ h1 h2 => ?_, rel⟩, h fd F⟩
  obtain ⟨oc, od, dV, kV, doc, pm, an, cdv, ct, osl, rfl, lk, hcd, hD, hK⟩ := F.ex
  rcases hD with ⟨_, rfl⟩ | ⟨e, _⟩
  · exact .of_eq (hb kV doc pm an cdv ct us ws h1 h2)
  · exact absurd rfl e
/-- with defaults: n are written, the defaults from the j-th on fill up -/
theorem OkD.of {sp : Sp} (n j : Nat) (F : ∃ fd, FunD K x x (defArgs st) (defBody st) (defScope st) dvs kws f fd) (g : mg x = some (.ref f)) (hd : dvs ≠ []) (hn : n + (dvs.length - j) = ps.length)
    (hb : ∀ (T : Addr) (kV doc pm : Value) (an : Option Addr) (cdv ct : Value) (us its : List Value), us.length = n → its.length = dvs.length →
      ∃ kk, bindArgs (PySem.W.fnOf x x (defArgs st) (defBody st) (defScope st) (.ref T) kV doc pm an cdv ct) ⟨us, []⟩ = seqItems? (.ref T) >>= kk ∧ kk (some its.toArray) = pure (ps.zip (us ++ its.drop j)))
    (h : ∀ fd, FunD K x x (defArgs st) (defBody st) (defScope st) dvs kws f fd → FnOk P w K mg base CX0 k f fd ps sp) : OkD P w K mg base k x ps (dvs.drop j) sp := by
  obtain ⟨fd, F⟩ := F
  obtain ⟨ds, h1, h2⟩ := F.binds1 n j hd hn hb
  exact ⟨f, fd, ds, g, F.kp, h1, h2, h fd F⟩
/-- all are written -/
theorem OkD.all {sp : Sp} (O : OkD P w K mg base k x ps [] sp) : Ok P w K mg base k x ps sp := by
  obtain ⟨f, fd, ds, h1, h2, h3, h4, h5⟩ := O
  cases h3
  exact ⟨f, fd, h1, h2, h4, h5⟩
theorem OkN.ofD {sp : Sp} {n : Nat} {ks : List Str} (gA : {α : Type} → List α → List α → List α → List α) (F : ∃ fd, FunD K x x (defArgs st) (defBody st) (defScope st) dvs kws f fd) (g : mg x = some (.ref f)) (hd : dvs ≠ [])
    (rel : ∀ {vs zs ds : List V} {us ws is : List Value}, Vals vs us → Vals zs ws → Vals ds is → Vals (gA vs zs ds) (gA us ws is))
    (hb : ∀ (T : Addr) (kV doc pm : Value) (an : Option Addr) (cdv ct : Value) (us ws its : List Value), us.length = n → ws.length = ks.length → its.length = dvs.length →
      ∃ kk, bindArgs (PySem.W.fnOf x x (defArgs st) (defBody st) (defScope st) (.ref T) kV doc pm an cdv ct) ⟨us, ks.zip ws⟩ = seqItems? (.ref T) >>= kk ∧ kk (some its.toArray) = pure (ps.zip (gA us ws its)))
    (h : ∀ fd, FunD K x x (defArgs st) (defBody st) (defScope st) dvs kws f fd → FnOk P w K mg base CX0 k f fd ps sp) : OkN P w K mg base k x ps n ks (fun vs zs => gA vs zs dvs) sp := by
  obtain ⟨fd, F⟩ := F
  have hf := h fd F
  have kp := F.kp
  obtain ⟨oc, od, dV, kV, doc, pm, an, cdv, ct, osl, rfl, lk, hcd, hD, hK⟩ := F.ex
  rcases hD with ⟨e, _⟩ | ⟨_, T, o, its, m, rfl, lT, oT, rT⟩
  · exact absurd e hd
  · refine ⟨f, _, fun us ws => gA us ws its, g, kp, ⟨fun s us ws X h1 h2 => ?_, fun r1 r2 => rel r1 r2 rT⟩, hf⟩
    obtain ⟨kk, e1, e2⟩ := hb T kV doc pm an cdv ct us ws its h1 h2 rT.length.symm
    refine BindsTo.of_looks fun M => ?_
    rw [e1]
    exact looks_items X lT oT (.of_pure e2)
end
/-! ### a call, seen from the caller -/
section
variable {e : En} {B H : Hp} {L : Led} {φ : Ph} {vs : List V} {Q : VK} {E : XK} {a : Addr} {o : HO}
/-- nothing is handed over to be changed -/
theorem y_sp0 (S : Sy e B H L) (h : φ B vs [] fun B' v L' => ∀ H', Sy ⟨[], [], B, H⟩ B' H' L' → Q v H') : spY φ vs H Q E := ⟨B, [], S.hand0, h⟩
/-- the first of the ledger is handed over -/
theorem y_sp1 (S : Sy e B H ((a, o) :: L)) (h : φ B vs [(a, o)] fun B' v L' => ∀ H', Sy ⟨[a], [], B, H⟩ B' H' L' → Q v H') : spY φ vs H Q E := ⟨B, [(a, o)], S.hand1, h⟩
end
end Y
namespace Y
open PySem PySem.Spec PyProof.Rows L2
section
variable {K : PySem.W.Frag} {σ : L2.St} {e : En} {B H : Hp} {L : Led} {Q : VK} {te : TE} {ta : TA} {v x y : V} {xs ys : List V} {a b p : Addr} {R : It → Hp → Prop} {nx bk ct : L2.St → Hp → Prop} {rt : VK} {g : TG} {tb : TS}
/-! ### what is walked -/
def RngK (R : It → Hp → Prop) : List V → Hp → Prop := fun vs H1 => ∃ j : Int, vs = [.int j] ∧ -(2 ^ 62) ≤ j ∧ j < 2 ^ 62 ∧ R (Itr 0 j.toNat) H1
theorem y_irng1 (h : ta σ H (RngK R)) : iRng1 ta σ H R := h
theorem y_rngK {j : Int} (h1 : -(2 ^ 62) ≤ j) (h2 : j < 2 ^ 62) (q : R (Itr 0 j.toNat) H) : RngK R [.int j] H := ⟨j, rfl, h1, h2, q⟩
def RngK2 (R : It → Hp → Prop) : List V → Hp → Prop := fun vs H1 => ∃ i j : Int, vs = [.int i, .int j] ∧ (-(2 ^ 62) ≤ i ∧ i < 2 ^ 62 ∧ -(2 ^ 62) ≤ j ∧ j < 2 ^ 62) ∧ R (Itr i (j - i).toNat) H1
theorem y_irng2 (h : ta σ H (RngK2 R)) : iRng2 ta σ H R := h
theorem y_rngK2 {i j : Int} (h1 : -(2 ^ 62) ≤ i) (h2 : i < 2 ^ 62) (h3 : -(2 ^ 62) ≤ j) (h4 : j < 2 ^ 62) (q : R (Itr i (j - i).toNat) H) : RngK2 R [.int i, .int j] H := ⟨i, j, rfl, ⟨h1, h2, h3, h4⟩, q⟩
def LstK (K : PySem.W.Frag) (R : It → Hp → Prop) : VK := fun x H1 => ∃ a, x = .ref a ∧ (∃ xs, SqL K H1 a xs) ∧ R (Itl K a) H1
theorem y_ilist (h : te σ H (LstK K R)) : iList K te σ H R := h
theorem y_lstK (h : SqL K H a xs) (q : R (Itl K a) H) : LstK K R (.ref a) H := ⟨a, rfl, ⟨xs, h⟩, q⟩
def StrK (R : It → Hp → Prop) : VK := fun v H1 => ∃ x, v = .str x ∧ R (Its x) H1
theorem y_istr (h : te σ H (StrK R)) : iStr te σ H R := h
theorem y_strK {z : Str} (q : R (Its z) H) : StrK R (.str z) H := ⟨z, rfl, q⟩
def KeysK (R : It → Hp → Prop) : VK := fun x H1 => ∃ d o, x = .ref d ∧ ((∃ kvs, H1 d = some (.frz o (.dK kvs)) ∧ R (Itk d o kvs) H1) ∨ ∃ kvs, H1 d = some (.frz o (.dT kvs)) ∧ R (Itkt d o kvs) H1)
theorem y_ikeys (h : te σ H (KeysK R)) : iKeys te σ H R := h
theorem y_keysK {d : Addr} {o : Obj} {kvs : List (Key × V)} (h : H d = some (.frz o (.dK kvs))) (q : R (Itk d o kvs) H) : KeysK R (.ref d) H := ⟨d, o, rfl, .inl ⟨kvs, h, q⟩⟩
def ValsK (R : It → Hp → Prop) : VK := fun x H1 => ∃ d o kvs, x = .ref d ∧ H1 d = some (.frz o (.dK kvs)) ∧ R (Itd d o kvs) H1
theorem y_ivals (h : te σ H (ValsK R)) : iVals te σ H R := h
def ItemsK (R : It → Hp → Prop) : VK := fun x H1 => ∃ d o kvs, x = .ref d ∧ H1 d = some (.frz o (.dK kvs)) ∧ R (Iti d o kvs) H1
theorem y_iitems (h : te σ H (ItemsK R)) : iItems te σ H R := h
theorem y_itemsK {d : Addr} {o : Obj} {kvs : List (Key × V)} (h : H d = some (.frz o (.dK kvs))) (q : R (Iti d o kvs) H) : ItemsK R (.ref d) H := ⟨d, o, kvs, rfl, h, q⟩
def ZipK (K : PySem.W.Frag) (R : It → Hp → Prop) : List V → Hp → Prop := fun vs H1 => ∃ a b xs ys, vs = [.ref a, .ref b] ∧ SqL K H1 a xs ∧ SqL K H1 b ys ∧ R (Itz K a b) H1
theorem y_izip (h : ta σ H (ZipK K R)) : iZip K ta σ H R := h
def EnumK (K : PySem.W.Frag) (R : It → Hp → Prop) : List V → Hp → Prop := fun vs H1 => ∃ a xs, vs = [.ref a] ∧ SqL K H1 a xs ∧ R (Ite K a) H1
theorem y_ienum (h : ta σ H (EnumK K R)) : iEnum K ta σ H R := h
theorem y_enumK (h1 : SqL K H a xs) (q : R (Ite K a) H) : EnumK K R [.ref a] H := ⟨a, xs, rfl, h1, q⟩

/-! ### loops -/
theorem y_forR {lo : Int} {n : Nat} (Pv : Nat → L2.St → Hp → Prop) (h0 : Pv 0 σ H)
    (hs : ∀ i σ H, i < n → Pv i σ H → g (.int (lo + i)) σ H fun σ2 H2 => tb ⟨Pv (i + 1), rt, nx, Pv (i + 1)⟩ σ2 H2) (hd : ∀ σ H, Pv n σ H → nx σ H) : ForG (Itr lo n) g tb ⟨nx, rt, bk, ct⟩ σ H :=
  y_forG walk_range Pv h0 (fun _ _ _ _ _ => trivial) (fun i x σ H H' hi p y => by obtain ⟨y1, y2⟩ := y; subst y1 y2; exact hs i σ _ hi p) hd
theorem y_forL (Pv : Nat → L2.St → Hp → Prop) (h0 : Pv 0 σ H) (hG : ∀ i σ H, i ≤ xs.length → Pv i σ H → SqL K H a xs)
    (hs : ∀ i x σ H, xs[i]? = some x → Pv i σ H → g x σ H fun σ2 H2 => tb ⟨Pv (i + 1), rt, nx, Pv (i + 1)⟩ σ2 H2) (hd : ∀ σ H, Pv xs.length σ H → nx σ H) : ForG (Itl K a) g tb ⟨nx, rt, bk, ct⟩ σ H :=
  y_forG walk_list Pv h0 hG (fun i x σ H H' hi p y => by obtain ⟨y1, y2⟩ := y; subst y1; exact hs i x σ _ y2 p) hd
/-- a new dict -/
theorem y_dnew (h : NewK (.dK []) Q H) : tDNewK σ H Q := h
/-! ### comprehensions that change nothing that stands -/
theorem range_bind {β γ : Type} (f : β → Option γ) : ∀ ys : List β, (List.range ys.length).filterMap (fun i => ys[i]?.bind f) = ys.filterMap f := by
  intro ys
  induction ys with
  | nil => rfl
  | cons y ys ih =>
    rw [List.length_cons, List.range_succ_eq_map, List.filterMap_cons, List.filterMap_map, List.filterMap_cons]
    have e : ((fun i => (y :: ys)[i]?.bind f) ∘ Nat.succ) = fun i => ys[i]?.bind f := by
      funext i
      simp
    rw [e, ih]
    simp
theorem pr_up {α β : Type} {Rep : Hp → α → β → Prop} (up : ∀ B B' a b, Same B B' → Rep B a b → Rep B' a b) {B B' : Hp} (s : Same B B') {l : List α} {m : List β} (h : Paired (Rep B) l m) : Paired (Rep B') l m := Paired.mapP h fun a b q => up B B' a b s q
theorem y_lcRel {β : Type} {J : It} {n : Nat} {G : Hp → Prop} {Y : Nat → Hp → V → Hp → Prop} {tt : TT} {vs : List Nat} (Rep : Hp → V → β → Prop) (up : ∀ B B' v b, Same B B' → Rep B v b → Rep B' v b) (w : Walk J n G Y) (S : Sy e B H L) (hn : n ≤ 100000) (spec : Nat → Option β)
    (hG : ∀ B1 H1 D acc, Same B B1 → Sy e B1 H1 ((D, .lst acc) :: L) → G H1)
    (hs : ∀ i x B1 H1 H1' acc D (Kp : VK) (Kn : Hp → Prop), i < n → Same B B1 → Sy e B1 H1 ((D, .lst acc) :: L) → Y i H1 x H1' → (∀ y b B4 H4, spec i = some b → Same B1 B4 → Rep B4 y b → Sy e B4 H4 ((D, .lst acc) :: L) → Kp y H4) →
      (∀ B4 H4, spec i = none → Same B1 B4 → Sy e B4 H4 ((D, .lst acc) :: L) → Kn H4) → g x (wipe σ vs) H1' fun σ2 H2 => wipe σ2 vs = wipe σ vs ∧ tt σ2 H2 fun b H3 => if b = true then te σ2 H3 Kp else Kn H3)
    (hd : ∀ B1 H1 acc D, Same B B1 → e.H D = none → Paired (Rep B1) acc ((List.range n).filterMap spec) → Sy e B1 H1 ((D, .lst acc) :: L) → Q (.ref D) H1) : LcG J g tt te vs σ Q H := by
  have hsnoc : ∀ i, (List.range (i + 1)).filterMap spec = (List.range i).filterMap spec ++ (spec i).toList := fun i => by
    rw [List.range_succ, List.filterMap_append]
    cases q : spec i <;> simp [q]
  refine y_lcG w S (fun i B1 acc L1 => L1 = L ∧ i ≤ n ∧ acc.length ≤ i ∧ Paired (Rep B1) acc ((List.range i).filterMap spec)) ⟨rfl, Nat.zero_le _, Nat.le_refl _, .nil⟩ ?_ ?_ ?_
  · rintro i B1 H1 acc L1 D ⟨rfl, _, _, _⟩ b1 S1
    exact hG B1 H1 D acc b1 S1
  · rintro i x B1 H1 H1' acc L1 D Kp Kn hi ⟨rfl, _, hl, hp⟩ b1 hD S1 hy kp kn
    refine hs i x B1 H1 H1' acc D Kp Kn hi b1 S1 hy (fun y b B4 H4 e1 b4 r S4 => ?_) (fun B4 H4 e1 b4 S4 => ?_)
    · refine kp y H4 ⟨B4, acc, L1, S4, b1.trans b4, Nat.lt_of_le_of_lt (Nat.le_trans hl (Nat.le_of_lt (Nat.lt_of_lt_of_le hi hn))) (by rw [sizeLine_eq]; decide), rfl, hi, by simp; omega, ?_⟩
      rw [hsnoc, e1]
      exact Paired.snoc (pr_up up b4 hp) r
    · refine kn H4 ⟨B4, acc, L1, S4, b1.trans b4, rfl, hi, by omega, ?_⟩
      rw [hsnoc, e1]
      simpa using pr_up up b4 hp
  · rintro B1 H1 acc L1 D ⟨rfl, _, hl, hp⟩ b1 hD S1
    exact hd B1 H1 acc D b1 hD hp S1
theorem eq_up : ∀ (B B' : Hp) (v b : V), Same B B' → v = b → v = b := fun _ _ _ _ _ h => h
theorem pr_eq : ∀ {l m : List V}, Paired (fun v b => v = b) l m → l = m
  | _, _, .nil => rfl
  | _, _, .cons h t => by rw [h, pr_eq t]
theorem y_yes {QT : Bool → Hp → Prop} (h : QT true H) : tYes σ H QT := h
theorem fm_some {α β : Type} (f : α → β) : ∀ l : List α, l.filterMap (fun i => some (f i)) = l.map f
  | [] => rfl
  | a :: l => by rw [List.filterMap_cons, List.map_cons, fm_some f l]
theorem fm_if {α : Type} (p : α → Bool) : ∀ l : List α, l.filterMap (fun r => if p r = true then some r else none) = l.filter p
  | [] => rfl
  | a :: l => by
    rw [List.filterMap_cons, List.filter_cons, fm_if p l]
    by_cases h : p a = true
    · rw [if_pos h, if_pos h]
    · rw [if_neg h, if_neg h]
end
end Y
/-! Bags, rows of a chain, tables of places: how they stand in the heap. -/
namespace Y
open PySem PySem.Spec PyProof.Rows L2
theorem lenOk {n : Nat} (h : n ≤ 100000) : n ≤ sizeLine := by rw [sizeLine_eq]; omega
theorem lenLt {n : Nat} (h : n < 100000) : n < sizeLine := by rw [sizeLine_eq]; omega

/-! ### lists, pairwise -/
section
variable {α β : Type} {F G : α → β → Prop}
theorem pr_get : ∀ {l : List α} {m : List β} {i : Nat} {b : β}, Paired F l m → m[i]? = some b → ∃ a, l[i]? = some a ∧ F a b
  | _, _, _, _, .nil, e => by simp at e
  | _, _, 0, _, .cons r _, e => by simp at e; subst e; exact ⟨_, rfl, r⟩
  | _, _, i + 1, b, .cons _ t, e => by
    obtain ⟨a, h1, h2⟩ := pr_get (i := i) (b := b) t (by simpa using e)
    exact ⟨a, by simpa using h1, h2⟩
theorem pr_getL : ∀ {l : List α} {m : List β} {i : Nat} {a : α}, Paired F l m → l[i]? = some a → ∃ b, m[i]? = some b ∧ F a b
  | _, _, _, _, .nil, e => by simp at e
  | _, _, 0, _, .cons r _, e => by simp at e; subst e; exact ⟨_, rfl, r⟩
  | _, _, i + 1, a, .cons _ t, e => by
    obtain ⟨b, h1, h2⟩ := pr_getL (i := i) (a := a) t (by simpa using e)
    exact ⟨b, by simpa using h1, h2⟩
theorem pr_app : ∀ {l : List α} {m : List β} {l' : List α} {m' : List β}, Paired F l m → Paired F l' m' → Paired F (l ++ l') (m ++ m')
  | _, _, _, _, .nil, h => h
  | _, _, _, _, .cons r t, h => .cons r (pr_app t h)
end

theorem atI_of {α : Type} {xs : List α} {i : Int} {v : α} (h0 : 0 ≤ i) (h : xs[i.toNat]? = some v) : atI xs i = some v := by
  obtain ⟨n, rfl⟩ := Int.eq_ofNat_of_zero_le h0
  exact atI_nat h
/-! ### bags -/
/-- a bag: its counter may still rise n times -/
def Bag (n : Nat) (o : HO) : Prop := ∃ x y z : Int, o = .lst [.int x, .int y, .int z] ∧ 0 ≤ y ∧ y < 2 ^ 200 ∧ 0 ≤ z ∧ z + n ≤ 2 ^ 100
theorem Bag.mono {n m : Nat} {o : HO} (h : Bag n o) (l : m ≤ n) : Bag m o := by
  obtain ⟨x, y, z, h1, h2, h3, h4, h5⟩ := h
  exact ⟨x, y, z, h1, h2, h3, h4, by omega⟩
def φ_draw : Ph := fun B vs L k => ∃ b o many n, vs = [.ref b, .int many] ∧ L = [(b, o)] ∧ Bag (n + 1) o ∧ 0 < many ∧ many < 2 ^ 100 ∧ ∀ i o', 0 ≤ i → i < many → Bag n o' → k B (.int i) [(b, o')]
def φ_cell (K : PySem.W.Frag) : Ph := fun B vs L k => ∃ (a : Addr) (ns : List Int) (i : Int), vs = [.ref a, .int i] ∧ L = [] ∧ SqL K B a (ns.map V.int) ∧ 0 ≤ i ∧ ∀ c, k B (.int c) []
def φ_bag : Ph := fun B vs L k => ∃ (c p : Int), vs = [.int c, .int p] ∧ L = [] ∧ 0 ≤ p ∧ p ≤ 1000 ∧ ∀ b o, Bag 1000000 o → k B (.ref b) [(b, o)]

section
variable {K : PySem.W.Frag} {e : En} {B H : Hp} {L : Led} {Q : VK} {E : XK} {a : Addr}
theorem y_cell {ns : List Int} {i : Int} (S : Sy e B H L) (hq : SqL K B a (ns.map V.int)) (h0 : 0 ≤ i) (k : ∀ c H', Sy e B H' L → Q (.int c) H') : spY (φ_cell K) [.ref a, .int i] H Q E :=
  y_sp0 S ⟨a, ns, i, rfl, rfl, hq, h0, fun c H' T => k c H' (S.back0 T)⟩
theorem y_bag {c p : Int} (S : Sy e B H L) (h0 : 0 ≤ p) (h1 : p ≤ 1000) (k : ∀ b o H', e.H b = none → Bag 1000000 o → Sy e B H' ((b, o) :: L) → Q (.ref b) H') : spY φ_bag [.int c, .int p] H Q E :=
  y_sp0 S ⟨c, p, rfl, rfl, h0, h1, fun b o hb H' T => k b o H' (S.backN0 T).1 hb (S.backN0 T).2⟩
end

/-! ### rows -/
/-- a version: its number, its dealing, its worth -/
abbrev Ver := Int × Int × Option Int
def wV : Option Int → V
  | none => .non
  | some i => .int i
def rowV (r : Ver) : List V := [.int r.1, .int r.2.1, wV r.2.2]
def RowAt (K : PySem.W.Frag) (B : Hp) (v : V) (r : Ver) : Prop := ∃ a, v = .ref a ∧ SqT K B a (rowV r)
abbrev RowsAt (K : PySem.W.Frag) (B : Hp) (vs : List V) (rs : List Ver) : Prop := Paired (RowAt K B) vs rs
section
variable {K : PySem.W.Frag} {B B' : Hp} {v : V} {vs : List V} {r : Ver} {rs : List Ver}
theorem RowAt.up (s : Same B B') (h : RowAt K B v r) : RowAt K B' v r := by
  obtain ⟨a, h1, h2⟩ := h
  exact ⟨a, h1, up_t s h2⟩
theorem RowsAt.up (s : Same B B') (h : RowsAt K B vs rs) : RowsAt K B' vs rs := Paired.mapP h fun _ _ q => RowAt.up s q
def wD : Option Int → PyData
  | none => .none
  | some i => .int i
def rowD (r : Ver) : PyData := .tuple [.int r.1, .int r.2.1, wD r.2.2]
theorem dp_w (w : Option Int) {H : Hp} : Dp K H (wV w) (wD w) := by cases w <;> constructor
theorem RowAt.dp (h : RowAt K B v r) : Dp K B v (rowD r) := by
  obtain ⟨a, rfl, h2⟩ := h
  exact .tup h2 (.cons (.int _) (.cons (.int _) (.cons (dp_w _) .nil)))
end

/-! ### tables of places -/
abbrev Tab := List (Int × Int)
def enc (p : Int × Int) : Key × V := (.inl p.1, .int p.2)
def look (t : Tab) (k : Int) : Option Int := (t.find? fun p => decide (p.1 = k)).map (·.2)
theorem look_cons {p : Int × Int} {t : Tab} {k : Int} : look (p :: t) k = if p.1 = k then some p.2 else look t k := by
  unfold look
  rw [List.find?_cons]
  by_cases h : p.1 = k
  · simp [h]
  · simp [h]
theorem valV_enc (k : Int) : ∀ t : Tab, valV (t.map enc) (.inl k) = (look t k).map V.int
  | [] => rfl
  | p :: t => by
    rw [List.map_cons, look_cons]
    by_cases h : p.1 = k
    · rw [valV_pos (show (enc p).1 = .inl k by unfold enc; rw [h]), if_pos h]; rfl
    · rw [valV_neg (show ¬ (enc p).1 = .inl k from fun z => h (Sum.inl.inj z)), if_neg h]
      exact valV_enc k t
theorem look_none {k : Int} : ∀ {t : Tab}, look t k = none ↔ k ∉ t.map (·.1)
  | [] => by simp [look]
  | p :: t => by
    rw [look_cons, List.map_cons, List.mem_cons]
    by_cases h : p.1 = k
    · rw [if_pos h]; simp [h]
    · rw [if_neg h, look_none (t := t)]
      constructor
      · rintro q (z | z)
        · exact h z.symm
        · exact q z
      · exact fun q z => q (.inr z)
theorem put_enc {t : Tab} {k v : Int} (h : k ∉ t.map (·.1)) : putK (t.map enc) (.inl k) (.int v) = (t ++ [(k, v)]).map enc := by
  rw [putK_new _ (by rw [valV_enc, look_none.mpr h]; rfl), List.map_append]
  rfl
/-- keys unlike, from 1 to m; places unlike, from 1 to n -/
structure TabOk (m n : Int) (t : Tab) : Prop where
  nk : (t.map (·.1)).Nodup
  nv : (t.map (·.2)).Nodup
  kb : ∀ p ∈ t, 1 ≤ p.1 ∧ p.1 ≤ m
  vb : ∀ p ∈ t, 1 ≤ p.2 ∧ p.2 ≤ n
theorem TabOk.nil {m n : Int} : TabOk m n [] := ⟨by simp, by simp, fun p h => (by cases h), fun p h => (by cases h)⟩
theorem TabOk.snoc {m n n' k v : Int} {t : Tab} (h : TabOk m n t) (h1 : k ∉ t.map (·.1)) (h2 : 1 ≤ k) (h3 : k ≤ m) (h4 : n < v) (h5 : v ≤ n') (h0 : 0 ≤ n) : TabOk m n' (t ++ [(k, v)]) := by
  refine ⟨?_, ?_, fun p hp => ?_, fun p hp => ?_⟩
  · rw [List.map_append]
    refine List.nodup_append.mpr ⟨h.nk, by simp, fun a ha b hb hab => ?_⟩
    have : b = k := by simpa using hb
    subst this hab
    exact h1 ha
  · rw [List.map_append]
    refine List.nodup_append.mpr ⟨h.nv, by simp, fun a ha b hb hab => ?_⟩
    have : b = v := by simpa using hb
    subst this hab
    obtain ⟨p, hp, e⟩ := List.mem_map.mp ha
    have := (h.vb p hp).2
    rw [show p.2 = a from e] at this
    omega
  · rcases List.mem_append.mp hp with hp | hp
    · exact h.kb p hp
    · have : p = (k, v) := by simpa using hp
      subst this
      exact ⟨h2, h3⟩
  · rcases List.mem_append.mp hp with hp | hp
    · have := h.vb p hp
      exact ⟨this.1, by omega⟩
    · have : p = (k, v) := by simpa using hp
      subst this
      exact ⟨by show 1 ≤ v; omega, h5⟩
/-- a chain as drawn: numbers rising, from 1 on, dealings from 1 to m -/
structure ChOk (m last : Int) (rs : List Ver) : Prop where
  up : (rs.map (·.1)).Pairwise (· < ·)
  nb : ∀ r ∈ rs, 1 ≤ r.1 ∧ r.1 ≤ last
  db : ∀ r ∈ rs, 1 ≤ r.2.1 ∧ r.2.1 ≤ m
theorem ChOk.nil {m last : Int} : ChOk m last [] := ⟨by simp, fun r h => (by cases h), fun r h => (by cases h)⟩
theorem ChOk.snoc {m l l' : Int} {rs : List Ver} {r : Ver} (h : ChOk m l rs) (h1 : l < r.1) (h2 : r.1 ≤ l') (h3 : 1 ≤ r.2.1) (h4 : r.2.1 ≤ m) (h0 : 0 ≤ l) : ChOk m l' (rs ++ [r]) := by
  refine ⟨?_, fun q hq => ?_, fun q hq => ?_⟩
  · rw [List.map_append, List.pairwise_append]
    refine ⟨h.up, by simp, fun a ha b hb => ?_⟩
    obtain ⟨q, hq, e⟩ := List.mem_map.mp ha
    have e2 : b = r.1 := by simpa using hb
    have := (h.nb q hq).2
    rw [show q.1 = a from e] at this
    omega
  · rcases List.mem_append.mp hq with hq | hq
    · have := h.nb q hq
      exact ⟨this.1, by omega⟩
    · have : q = r := by simpa using hq
      subst this
      exact ⟨by omega, h2⟩
  · rcases List.mem_append.mp hq with hq | hq
    · exact h.db q hq
    · have : q = r := by simpa using hq
      subst this
      exact ⟨h3, h4⟩
end Y
/-! dict(..), sorted(..), locks, calls by names alone. -/
namespace Y
open PySem PySem.Spec PyProof.Rows L2
section
variable {X : Cx} {K : PySem.W.Frag} {σ : L2.St} {e : En} {B H : Hp} {L : Led} {Q : VK} {te : TE} {v x y : V} {xs ys : List V} {a b d p : Addr} {o : HO}

/-! ### dict(ps), dict(d) -/
def rDictP (K : PySem.W.Frag) : List V → Hp → VK → Prop := fun xs H Q => ∃ (a : Addr) (ps : List Addr) (kvs : List (Key × V)), xs = [.ref a] ∧ SqL K H a (ps.map V.ref) ∧ Paired (fun p kv => SqT K H p [kV kv.1, kv.2]) ps kvs ∧ NewK (.dK (mergeK [] kvs)) Q H
def rDictD : List V → Hp → VK → Prop := fun xs H Q => ∃ (a : Addr) (kvs : List (Key × V)), xs = [.ref a] ∧ Rd H a (.dK kvs) ∧ NewK (.dK kvs) Q H
def rDictU (K : PySem.W.Frag) : List V → Hp → VK → Prop := fun xs H Q => rDictP K xs H Q ∨ rDictD xs H Q
theorem call_dictU (hK : X.K = K) (hc : X.calm = true) : CallR X (.type "dict") (rDictU K) := hK ▸ CallR.or (r := rDictP X.K) (r' := rDictD) (call_dictP hc) call_dictD
theorem y_dictD {kvs : List (Key × V)} (h : Rd H a (.dK kvs)) (q : NewK (.dK kvs) Q H) : rDictU K [.ref a] H Q := .inr ⟨a, kvs, rfl, h, q⟩
/-- a pair of ints -/
def PairAt (B : Hp) (v : V) (p : Int × Int) : Prop := ∃ t, v = .ref t ∧ B t = some (.tup [.int p.1, .int p.2])
theorem PairAt.up (B B' : Hp) (v : V) (p : Int × Int) (s : Same B B') (h : PairAt B v p) : PairAt B' v p := by
  obtain ⟨t, h1, h2⟩ := h
  exact ⟨t, h1, s t _ h2⟩
theorem merge_enc : ∀ (t t0 : Tab), ((t0 ++ t).map (·.1)).Nodup → mergeK (t0.map enc) (t.map enc) = (t0 ++ t).map enc
  | [], t0, _ => by rw [List.append_nil]; rfl
  | p :: t, t0, h => by
    have h1 : p.1 ∉ t0.map (·.1) := fun z => by
      rw [List.map_append, List.map_cons] at h
      exact (List.nodup_append.mp h).2.2 _ z _ List.mem_cons_self rfl
    have e1 : t0 ++ p :: t = (t0 ++ [p]) ++ t := by simp
    have ih := merge_enc t (t0 ++ [p]) (by rw [← e1]; exact h)
    show mergeK (putK (t0.map enc) (.inl p.1) (.int p.2)) (t.map enc) = _
    rw [put_enc h1, ih, e1]
/-- dict(ps) of pairs of ints with unlike first ones -/
theorem y_dictP (S : Sy e B H L) {t : Tab} (h : SqL K H a xs) (hp : Paired (PairAt B) xs t) (nd : (t.map (·.1)).Nodup) (q : NewK (.dK (t.map enc)) Q H) : rDictU K [.ref a] H Q := by
  have key : ∀ {xs : List V} {t : Tab}, Paired (PairAt B) xs t → ∃ ps : List Addr, xs = ps.map V.ref ∧ Paired (fun p kv => SqT K H p [kV kv.1, kv.2]) ps (t.map enc) := by
    intro xs t hp
    induction hp with
    | nil => exact ⟨[], rfl, .nil⟩
    | cons r _ ih =>
      obtain ⟨ps, e1, e2⟩ := ih
      obtain ⟨t, rfl, h2⟩ := r
      exact ⟨t :: ps, by rw [e1]; rfl, .cons (sqT (S.tup h2)) e2⟩
  obtain ⟨ps, rfl, h2⟩ := key hp
  refine .inl ⟨a, ps, t.map enc, rfl, h, h2, ?_⟩
  rw [show mergeK [] (t.map enc) = t.map enc from merge_enc t [] (by simpa using nd)]
  exact q

/-! ### a table of places -/
/-! ### sorted -/
def rSortU (K : PySem.W.Frag) : List V → Hp → VK → Prop := fun xs H Q => rSortedI K xs H Q ∨ rSortedPO K xs H Q
theorem call_sortedU (hK : X.K = K) : CallR X (.builtin "sorted") (rSortU K) := hK ▸ CallR.or cr_sortedI cr_sortedPO
/-- by the first, then by the second -/
def LexLe (p q : Int × Int) : Prop := p.1 < q.1 ∨ (p.1 = q.1 ∧ p.2 ≤ q.2)
def pairOf (H : Hp) (x : V) : Int × Int := match x with
  | .ref t => (match H t with
    | some (.tup [.int i, .int j]) => (i, j)
    | _ => (0, 0))
  | _ => (0, 0)
theorem pairOf_eq {t : Addr} {i j : Int} (h : H t = some (.tup [.int i, .int j])) : pairOf H (.ref t) = (i, j) := by
  simp only [pairOf, h]
theorem pairs_of {B H : Hp} (sb : Sub B H) : ∀ {xs : List V} {ps : List (Int × Int)}, Paired (PairAt B) xs ps → ps = xs.map (pairOf H) ∧ (∀ x ∈ xs, ∃ t, x = V.ref t ∧ B t = some (.tup [.int (pairOf H x).1, .int (pairOf H x).2]))
  | _, _, .nil => ⟨rfl, fun x h => by cases h⟩
  | _, _, .cons (b := p) r h => by
    obtain ⟨t, rfl, h2⟩ := r
    obtain ⟨e1, e2⟩ := pairs_of sb h
    have e3 : pairOf H (.ref t) = p := pairOf_eq (sb.tup h2)
    refine ⟨by rw [List.map_cons, e3, e1], fun x hx => ?_⟩
    rcases List.mem_cons.mp hx with rfl | hx
    · exact ⟨t, rfl, by rw [e3]; exact h2⟩
    · exact e2 x hx
theorem paired_map {α β : Type} {F : α → β → Prop} (f : α → β) : ∀ {l : List α}, (∀ x ∈ l, F x (f x)) → Paired F l (l.map f)
  | [], _ => .nil
  | x :: l, h => .cons (h x List.mem_cons_self) (paired_map f fun y hy => h y (List.mem_cons_of_mem _ hy))
/-- sorted(ps), ps pairs of ints -/
theorem y_sortedP (S : Sy e B H L) {ps : List (Int × Int)} (h : SqL K H a xs) (hp : Paired (PairAt B) xs ps) (q : ∀ ys qs, Paired (PairAt B) ys qs → qs.Perm ps → qs.Pairwise LexLe → ys.length = xs.length → NewK (.lst ys) Q H) : rSortU K [.ref a] H Q := by
  obtain ⟨e1, e2⟩ := pairs_of S.bh hp
  refine .inr ⟨a, xs, pairOf H, rfl, h, fun x hx => ?_, fun ys p h1 h2 hn => ?_⟩
  · obtain ⟨t, h3, h4⟩ := e2 x hx
    exact ⟨t, h3, S.tup h4⟩
  · refine q ys (ys.map (pairOf H)) (paired_map _ fun x hx => ?_) ?_ ?_ h2.perm.length_eq p hn
    · exact e2 x (h2.perm.mem_iff.mp hx)
    · rw [e1]; exact h2.perm.map _
    · rw [List.pairwise_map]
      refine List.Pairwise.imp (fun {u w} z => ?_) h1
      have z2 := SrtO.lexB_no.mp z
      unfold LexLe
      omega

/-! ### sums, all, any of made lists -/
theorem cr_anyU (hK : X.K = K) (hc : X.calm = true) : CallR X (.builtin "any") (rAny K) := hK ▸ cr_any hc
theorem y_any {bs : List Bool} (h : SqL K H a (bs.map V.bl)) (q : Q (.bl (bs.any id)) H) : rAny K [.ref a] H Q := ⟨a, bs, rfl, h, q⟩

/-! ### alike -/
/-! ### locks -/
/-- behind a locked expression -/
def LockK (d : Addr) (od : Obj) (u : HO) (Q : VK) : VK := fun v H' => H' d = some (.frz od u) ∧ Q v (upd H' d u)
theorem y_lockE (S : Sy e B H L) {kvs : List (Key × V)} (hB : B d = some (.dK kvs)) (hH : H d = some (.dK kvs))
    (k : ∀ od H1, H1 d = some (.frz od (.dK kvs)) → Sy { e with Z := (d, od, .dK kvs) :: e.Z } B H1 L → te σ H1 (LockK d od (.dK kvs) Q)) : tLockE te σ H Q :=
  ⟨d, .dK kvs, hH, trivial, fun od => k od _ upd_same (S.lock hB trivial hH)⟩
theorem y_lockK (S : Sy e B H L) {kvs : List (Key × V)} {B' H' : Hp} {L' : Led} {od : Obj} (hB : B d = some (.dK kvs)) (hH : H d = some (.dK kvs)) (b : Same B B') (T : Sy { e with Z := (d, od, .dK kvs) :: e.Z } B' H' L') (k : ∀ H2, Sy e B' H2 L' → Q v H2) : LockK d od (.dK kvs) Q v H' := by
  obtain ⟨h1, h2⟩ := S.unlock hB trivial hH b T
  exact ⟨h1, k _ h2⟩
/-- a dict that was laid since the entry is locked -/
theorem y_lockX (hz : e.Z = []) (S : Sy e B H L) {kvs : List (Key × V)} (hB : B d = some (.dK kvs)) (hn : e.H d = none)
    (k : ∀ od H1 e1 (Q' : VK), e1.H = e.H → H1 d = some (.frz od (.dK kvs)) → Sy e1 B H1 L → (∀ B' H' L', Sy e1 B' H' L' → H' d = some (.frz od (.dK kvs))) → (∀ v B' H' L', Same B B' → Sy e1 B' H' L' → (∀ H2, Sy e B' H2 L' → Q v H2) → Q' v H') → te σ H1 Q') : tLockE te σ H Q := by
  have hH := S.dk hB trivial hn hz
  exact y_lockE S hB hH fun od H1 h1 S1 => k od H1 { e with Z := (d, od, .dK kvs) :: e.Z } _ rfl h1 S1 (fun B' H' L' T => T.zin (d, od, .dK kvs) List.mem_cons_self) fun v B' H' L' b T q => y_lockK S hB hH b T q
end
/-! ### a call by names alone -/
section
variable {X : Cx} {k : Nat} {x : Str} {ps : List Str} {sp : Sp} {p pos : Pos} {tk : TA} {ks : List Str} {gV : List V → List V → List V} {kws : List Keyword}
end
section
variable {σ : L2.St} {H : Hp} {Q : VK} {n m : Nat} {sp : Sp} {gV : List V → List V → List V} {E : XK} {t tk : TA} {vs zs : List V}
/-- the values of a call with names -/
def CallNK (n m : Nat) (sp : Sp) (gV : List V → List V → List V) (E : XK) (Q : VK) (vs zs : List V) (H : Hp) : Prop := vs.length = n ∧ zs.length = m ∧ sp (gV vs zs) H Q E
theorem y_callN (h : t σ H fun vs H1 => tk σ H1 fun zs H2 => CallNK n m sp gV E Q vs zs H2) : tCallN n m sp gV E t tk σ H Q := h
theorem y_callNK (h1 : vs.length = n) (h2 : zs.length = m) (h : sp (gV vs zs) H Q E) : CallNK n m sp gV E Q vs zs H := ⟨h1, h2, h⟩
end
/-! ### a version or None -/
/-- a version or None -/
def OptAt (K : PySem.W.Frag) (B : Hp) (v : V) : Option Ver → Prop
  | none => v = .non
  | some r => RowAt K B v r
theorem OptAt.up {K : PySem.W.Frag} {B B' : Hp} {v : V} {o : Option Ver} (s : Same B B') (h : OptAt K B v o) : OptAt K B' v o := by
  cases o with
  | none => exact h
  | some r => exact RowAt.up s h
def optD : Option Ver → PyData
  | none => .none
  | some r => rowD r
theorem OptAt.dp {K : PySem.W.Frag} {B : Hp} {v : V} {o : Option Ver} (h : OptAt K B v o) : ∃ dd, Dp K B v dd ∧ SeqAt.shaped dd = true ∧ PyData.eqv dd dd = true ∧ dd = optD o := by
  cases o with
  | none =>
    have h : v = .non := h
    subst h
    exact ⟨.none, .non, rfl, rfl, rfl⟩
  | some r =>
    refine ⟨rowD r, RowAt.dp h, ?_, ?_, rfl⟩
    · obtain ⟨a, b, c⟩ := r
      cases c <;> rfl
    · obtain ⟨a, b, c⟩ := r
      cases c <;> simp [rowD, wD, PyData.eqv, PyData.eqvAll]
/-! ### the law's own promise -/
def φ_law (K : PySem.W.Frag) : Ph := fun B vs L k => ∃ (a : Addr) (ns : List Int), vs = [.ref a] ∧ L = [] ∧ SqL K B a (ns.map V.int) ∧ ns.length ≤ 63 ∧ ∀ B', Same B B' → k B' (.bl true) []
end Y
/-! max(d.values(), default=c), the values ints. -/
namespace Y
open PySem PySem.Spec PyProof.Rows L2
/-- the best of the first j + 1 -/
theorem best_of {bt : Nat → Nat → Bool} {f : Nat → Int} (h : ∀ i j, bt i j = decide (f j < f i)) : ∀ j, PySem.argBest bt j ≤ j ∧ ∀ i, i ≤ j → f i ≤ f (PySem.argBest bt j)
  | 0 => ⟨Nat.le_refl _, fun i hi => by rw [show i = 0 by omega]; exact Int.le_refl _⟩
  | j + 1 => by
    obtain ⟨h1, h2⟩ := best_of h j
    unfold argBest
    rw [h]
    by_cases c : f (PySem.argBest bt j) < f (j + 1)
    · rw [decide_eq_true c, if_pos rfl]
      refine ⟨Nat.le_refl _, fun i hi => ?_⟩
      rcases Nat.lt_or_ge i (j + 1) with z | z
      · exact Int.le_trans (h2 i (by omega)) (Int.le_of_lt c)
      · rw [show i = j + 1 by omega]; exact Int.le_refl _
    · rw [decide_eq_false c, if_neg (by decide)]
      refine ⟨by omega, fun i hi => ?_⟩
      rcases Nat.lt_or_ge i (j + 1) with z | z
      · exact h2 i (by omega)
      · rw [show i = j + 1 by omega]; omega
section
variable {prog : Program} {w : World} {A : Around} {E : Value → Shared → Prop} {s : Shared} {Q : Value → Shared → Prop}
end
section
variable {X : Cx}
/-- the greatest of a dict's values, or c -/
def tMaxV (c : Int) (td : TE) : TE := fun σ H Q => td σ H fun x H1 => ∃ (d : Addr) (kvs : List (Key × V)) (ns : List Int), x = .ref d ∧ Rd H1 d (.dK kvs) ∧ kvs.map (·.2) = ns.map V.int ∧ (ns = [] → Q (.int c) H1) ∧ ∀ m ∈ ns, (∀ z ∈ ns, z ≤ m) → Q (.int m) H1
end
end Y
namespace Y
open PySem PySem.Spec PyProof.Rows L2
section
variable {X : Cx} {K : PySem.W.Frag} {σ : L2.St} {e : En} {B H : Hp} {L : Led} {Q : VK} {ta : TA} {x y : V} {a b : Addr} {xs ys : List V} {R : It → Hp → Prop}
/-! int(..), isinstance(..), ranges with a step, lists of ints -/
def rIntU : List V → Hp → VK → Prop := fun xs H Q => (∃ i, xs = [.int i] ∧ Q (.int i) H) ∨ ∃ k, xs = [.bl k] ∧ Q (.int (if k then 1 else 0)) H
theorem call_intU : CallR X (.type "int") rIntU := call_int1
theorem y_intI {i : Int} (q : Q (.int i) H) : rIntU [.int i] H Q := .inl ⟨i, rfl, q⟩
theorem y_intB {c : Bool} (q : Q (.int (if c then 1 else 0)) H) : rIntU [.bl c] H Q := .inr ⟨c, rfl, q⟩
theorem call_isiU (hK : X.K = K) : CallR X (.builtin "isinstance") (rIsi K) := hK ▸ call_isi
def RngK3 (R : It → Hp → Prop) : List V → Hp → Prop := fun vs H1 => ∃ (i j c : Int) (n : Nat), vs = [.int i, .int j, .int c] ∧ RgC i j c n ∧ R (Itc i c n) H1
theorem y_irng3 (h : ta σ H (RngK3 R)) : iRng3 ta σ H R := h
theorem RgC.two {i j : Int} (ha : -(2 ^ 30) ≤ i) (ha' : i < 2 ^ 30) (hb : -(2 ^ 30) ≤ j) (hb' : j < 2 ^ 30) : RgC i j (-2) ((i - j + 1) / 2).toNat := by
  have e : Builtin.Range.rangeSize i j (-2) = (((i - j + 1) / 2).toNat : Int) := by
    unfold Builtin.Range.rangeSize
    simp only [show ¬ ((-2 : Int) > 0) by decide, if_false, show (-(-2) : Int) = 2 from rfl]
    split <;> omega
  refine ⟨by decide, by decide, ?_, e⟩
  unfold Builtin.Range.small
  rw [e]
  simp only [Builtin.Range.rangeFitsLong, Bool.and_eq_true, Bool.or_eq_true, decide_eq_true_eq, beq_iff_eq, show ¬ ((-2 : Int) > 0) by decide, if_false]
  omega
theorem cut_init (xs : List V) : cutV xs none (some (-1)) = xs.dropLast := by
  unfold cutV
  rw [List.dropLast_eq_take]
  have e1 : HT.sIx xs.length 0 none = 0 := rfl
  have e2 : HT.sIx xs.length xs.length (some (-1)) = xs.length - 1 := by
    unfold HT.sIx
    simp
    omega
  rw [e1, e2]
  simp
/-- ints, as values -/
def IntAt (_ : Hp) (v : V) (n : Int) : Prop := v = .int n
theorem IntAt.up : ∀ (B B' : Hp) (v : V) (n : Int), Same B B' → IntAt B v n → IntAt B' v n := fun _ _ _ _ _ h => h
/-- the members of a list of ints -/
theorem inV_ints {k : Int} : ∀ {ns : List Int}, inV (.int k) (ns.map V.int) = decide (k ∈ ns) := by
  intro ns
  induction ns with
  | nil => rfl
  | cons n ns ih =>
    have e : inV (.int k) ((n :: ns).map V.int) = (eqV (.int n) (.int k) || inV (.int k) (ns.map V.int)) := rfl
    rw [e, ih]
    show ((n == k) || decide (k ∈ ns)) = _
    rw [Bool.eq_iff_iff]
    simp only [Bool.or_eq_true, beq_iff_eq, decide_eq_true_eq, List.mem_cons]
    constructor
    · rintro (h | h)
      · exact .inl h.symm
      · exact .inr h
    · rintro (h | h)
      · exact .inl h.symm
      · exact .inr h
theorem flat_ints : ∀ {ns : List Int}, (ns.map V.int).all flatV = true := by
  intro ns
  induction ns with
  | nil => rfl
  | cons n ns ih =>
    show (true && (ns.map V.int).all flatV) = true
    rw [ih]
    rfl
theorem y_gtup {n : Nat} {t : TGs} {N : L2.St → Hp → Prop} (h : SqT K H a xs) (hl : xs.length = n) (q : t xs σ H N) : gTup K n t (.ref a) σ H N := ⟨a, xs, rfl, h, hl, q⟩
theorem y_gcons {t : TG} {u : TGs} {N : L2.St → Hp → Prop} {v : V} {r : List V} (h : t v σ H fun σ' H' => u r σ' H' N) : gCons t u (v :: r) σ H N := ⟨v, r, rfl, h⟩
theorem y_gnil {N : L2.St → Hp → Prop} (h : N σ H) : gNil [] σ H N := ⟨rfl, h⟩
theorem eqv_ints : ∀ ns : List Int, PyData.eqvAll (ns.map PyData.int) (ns.map PyData.int) = true
  | [] => by simp [PyData.eqvAll]
  | n :: ns => by simp [PyData.eqvAll, PyData.eqv, eqv_ints ns]
theorem dp_ints : ∀ ns : List Int, DpAll K H (ns.map V.int) (ns.map PyData.int)
  | [] => .nil
  | n :: ns => .cons (.int n) (dp_ints ns)
/-- two lists of the same ints -/
theorem y_neInts {ns : List Int} (h1 : SqL K H a (ns.map V.int)) (h2 : SqL K H b (ns.map V.int)) (q : Q (.bl false) H) : rNeU K (.ref a) (.ref b) H Q :=
  y_neD (.lst h1 (dp_ints ns)) (.lst h2 (dp_ints ns)) (PySem.W.shaped_ints ns) (PySem.W.shaped_ints ns) (by rw [PyData.eqv, eqv_ints]; exact q)
end
end Y
/-! Things of the ledger lent to a callee, to be read. -/
namespace Y
open PySem PySem.Spec PyProof.Rows L2
/-- the base with the ledger on it -/
def over (B : Hp) : Led → Hp
  | [] => B
  | p :: L => upd (over B L) p.1 p.2
/-- without the ledger's places -/
def less (B : Hp) (L : Led) : Hp := fun a => if a ∈ L.map (·.1) then none else B a
section
variable {e : En} {B B' H H' : Hp} {L N : Led} {a : Addr} {o : HO} {K : PySem.W.Frag} {Q : VK} {E : XK} {v : V} {vs xs : List V} {φ : Ph}
theorem over_out (B : Hp) : ∀ {L : Led} {a : Addr}, a ∉ L.map (·.1) → over B L a = B a
  | [], _, _ => rfl
  | p :: L, a, h => by
    rw [List.map_cons, List.mem_cons, not_or] at h
    show upd (over B L) p.1 p.2 a = _
    unfold upd
    rw [if_neg h.1]
    exact over_out B h.2
theorem over_in (B : Hp) : ∀ {L : Led} {p : Addr × HO}, (L.map (·.1)).Nodup → p ∈ L → over B L p.1 = some p.2
  | q :: L, p, nd, h => by
    rw [List.map_cons, List.nodup_cons] at nd
    show upd (over B L) q.1 q.2 p.1 = _
    rcases List.mem_cons.mp h with h1 | h1
    · subst h1
      exact upd_same
    · have hne : p.1 ≠ q.1 := fun z => nd.1 (by rw [← z]; exact List.mem_map.mpr ⟨p, h1, rfl⟩)
      unfold upd
      rw [if_neg hne]
      exact over_in B nd.2 h1
theorem Sy.ov (S : Sy e B H L) (h : (a, o) ∈ L) : over B L a = some o := over_in B S.nd h
theorem Sy.bout (S : Sy e B H L) (h : B a = some o) : a ∉ L.map (·.1) := fun z => by
  obtain ⟨p, hp, e1⟩ := List.mem_map.mp z
  have := (S.led p hp).2.1
  rw [show p.1 = a from e1, h] at this
  cases this
theorem Sy.toOver (S : Sy e B H L) : Same B (over B L) := fun a o h => by rw [over_out B (S.bout h)]; exact h
theorem Sy.lendHand (S : Sy e B H L) : Hand (over B L) H [] := by
  refine ⟨fun a o h => ?_, fun p hp => (by cases hp), by simp, fun p hp => (by cases hp)⟩
  by_cases c : a ∈ L.map (·.1)
  · obtain ⟨p, hp, e1⟩ := List.mem_map.mp c
    have h1 := over_in B S.nd hp
    rw [show p.1 = a from e1, h] at h1
    cases h1
    have := (S.led p hp).1
    rw [show p.1 = a from e1] at this
    exact .inl this
  · rw [over_out B c] at h
    exact S.bh a o h
theorem Sy.lendBack (S : Sy e B H L) (T : Sy ⟨[], [], over B L, H⟩ B' H' N) : Same B (less B' L) ∧ Sy e (less B' L) H' (N ++ L) ∧ ∀ p ∈ N, e.H p.1 = Option.none := by
  have hN : ∀ p ∈ N, H p.1 = Option.none := fun p hp => by
    obtain ⟨_, _, r3, _⟩ := T.led p hp
    rcases r3 with z | z
    · cases z
    · exact z
  have hN2 : ∀ p ∈ N, e.H p.1 = Option.none := fun p hp => by
    cases q : e.H p.1 with
    | none => rfl
    | some x => exact absurd (hN p hp) (S.there p.1 (by rw [q]; simp))
  have kp : ∀ a o, H a = some o → H' a = some o := fun a o h => T.keep a o (by simp) (by simp) h
  have out : ∀ {a o}, less B' L a = some o → a ∉ L.map (·.1) ∧ B' a = some o := fun {a o} h => by
    unfold less at h
    by_cases c : a ∈ L.map (·.1)
    · rw [if_pos c] at h; cases h
    · rw [if_neg c] at h; exact ⟨c, h⟩
  have b0 : Same B (less B' L) := fun a o h => by
    unfold less
    rw [if_neg (S.bout h)]
    exact T.b0 a o (S.toOver a o h)
  refine ⟨b0, ⟨S.b0.trans b0, fun a o h => T.bh a o (out h).2, fun p hp => ?_, ?_, fun a o h1 h2 q => kp a o (S.keep a o h1 h2 q), fun a r1 r2 => ?_, fun a r => T.there a (S.there a r), fun p hp => kp _ _ (S.zin p hp), fun a x q hk => ?_, fun p hp => (List.mem_append.mp hp).elim (T.nt p) (S.nt p)⟩, hN2⟩
  · rcases List.mem_append.mp hp with hp | hp
    · obtain ⟨r1, r2, r3, r4⟩ := T.led p hp
      refine ⟨r1, ?_, .inr (hN2 p hp), fun z => ?_⟩
      · unfold less
        split
        · rfl
        · exact r2
      · obtain ⟨q, hq, e1⟩ := List.mem_map.mp z
        have := S.zin q hq
        rw [show q.1 = p.1 from e1, hN p hp] at this
        cases this
    · obtain ⟨s1, s2, s3, s4⟩ := S.led p hp
      refine ⟨kp _ _ s1, ?_, s3, s4⟩
      unfold less
      rw [if_pos (List.mem_map.mpr ⟨p, hp, rfl⟩)]
  · rw [List.map_append]
    refine List.nodup_append.mpr ⟨T.nd, S.nd, fun a ha b hb hab => ?_⟩
    subst hab
    obtain ⟨p, hp, ep⟩ := List.mem_map.mp ha
    obtain ⟨r, hr, er⟩ := List.mem_map.mp hb
    have q1 := hN p hp
    have q2 := (S.led r hr).1
    rw [show p.1 = a from ep] at q1
    rw [show r.1 = a from er, q1] at q2
    cases q2
  · unfold less
    split
    · exact .inl rfl
    · next c =>
        rcases S.fresh a r1 r2 with z | ⟨xs, z⟩
        · exact T.fresh a (S.there a r1) (by show over B L a = _; rw [over_out B c]; exact z)
        · exact .inr ⟨xs, T.b0 a _ (S.toOver a _ z)⟩
  · obtain ⟨c, q⟩ := out q
    rcases T.lk a x q hk with z | z | ⟨ob, u, z⟩
    · exact .inl z
    · exact absurd z (by simp)
    · have z : H a = some (.frz ob u) := z
      cases r : B a with
      | none =>
        rcases T.fresh a (by show H a ≠ _; rw [z]; simp) (by show over B L a = _; rw [over_out B c]; exact r) with this | ⟨xs, this⟩
        · rw [q] at this; cases this
        · rw [q] at this; cases this; exact hk.elim
      | some y =>
        have e1 : B' a = some y := T.b0 a y (S.toOver a y r)
        rw [q] at e1; cases e1
        rcases S.lk a x r hk with z2 | z2 | z2
        · rw [z] at z2; cases z2; exact hk.elim
        · exact .inr (.inl z2)
        · exact .inr (.inr z2)
/-- a call that may read all of the ledger -/
theorem y_lend (S : Sy e B H L) (h : φ (over B L) vs [] fun B' v N => ∀ H', Same (over B L) B' → Same B (less B' L) → Sy e (less B' L) H' (N ++ L) → (∀ p ∈ N, e.H p.1 = none) → Q v H')
    (mono : ∀ (B : Hp) (k k' : Hp → V → Led → Prop), (∀ B' v N, k B' v N → k' B' v N) → φ B vs [] k → φ B vs [] k') : spY φ vs H Q E :=
  ⟨over B L, [], S.lendHand, mono _ _ _ (fun B' v N hk H' T => by
    obtain ⟨h1, h2, h3⟩ := S.lendBack T
    exact hk H' T.b0 h1 h2 h3) h⟩
/-- lists and dicts alone -/
def Flat (L : Led) : Prop := ∀ p ∈ L, (∃ xs, p.2 = .lst xs) ∨ ∃ kvs, p.2 = .dK kvs
end
end Y
/-! The ledger by index; == and in of plain data; data by their types. -/
namespace Y
open PySem PySem.Spec PyProof.Rows L2
section
variable {e : En} {B B' H H' : Hp} {L L' R : Led} {a b p : Addr} {o o' : HO} {K : PySem.W.Frag} {n : Nat}
theorem led_split {n : Nat} {q : Addr × HO} (h : L[n]? = some q) : L = L.take n ++ q :: L.drop (n + 1) := by
  obtain ⟨h1, h2⟩ := List.getElem?_eq_some_iff.mp h
  have := List.take_append_drop n L
  rw [List.drop_eq_getElem_cons h1, h2] at this
  exact this.symm
theorem led_set {n : Nat} {q : Addr × HO} (h : L[n]? = some q) (q' : Addr × HO) : L.set n q' = L.take n ++ q' :: L.drop (n + 1) := by
  obtain ⟨h1, h2⟩ := List.getElem?_eq_some_iff.mp h
  rw [List.set_eq_take_append_cons_drop, if_pos h1]
theorem led_erase {n : Nat} {q : Addr × HO} (h : L[n]? = some q) : L.Perm (q :: L.eraseIdx n) := by
  have e1 : L.eraseIdx n = L.take n ++ L.drop (n + 1) := List.eraseIdx_eq_take_drop_succ L n
  rw [e1]
  conv => lhs; rw [led_split h]
  exact List.perm_middle
theorem led_unerase {n : Nat} {q : Addr × HO} (h : L[n]? = some q) (q' : Addr × HO) : (q' :: L.eraseIdx n).Perm (L.set n q') := by
  have e1 : L.eraseIdx n = L.take n ++ L.drop (n + 1) := List.eraseIdx_eq_take_drop_succ L n
  rw [e1, led_set h]
  exact List.perm_middle.symm
theorem Sy.at (S : Sy e B H L) (n : Nat) (h : L[n]? = some (a, o)) : H a = some o := (S.led (a, o) (List.mem_of_getElem? h)).1
theorem Sy.front (S : Sy e B H L) (n : Nat) (h : L[n]? = some (a, o)) : Sy e B H ((a, o) :: L.eraseIdx n) := S.perm (led_erase h)
theorem Sy.wr (S : Sy e B H L) (n : Nat) (h : L[n]? = some (a, o)) (o' : HO) (no : NT o' := by intro _ z; cases z) : Sy e B (upd H a o') (L.set n (a, o')) := ((S.front n h).w0 o' no).perm (led_unerase h _)
theorem Sy.freezeN (S : Sy e B H L) (n : Nat) (h : L[n]? = some (a, o)) (hn : e.H a = Option.none) : Same B (upd B a o) ∧ Sy e (upd B a o) H (L.eraseIdx n) := (S.front n h).freeze hn
theorem Sy.frz (S : Sy e B H L) (n : Nat) (h : L[n]? = some (a, o)) (hn : e.H a = Option.none) : ∃ B', Same B B' ∧ B' a = some o ∧ Sy e B' H (L.eraseIdx n) := ⟨_, (S.freezeN n h hn).1, upd_same, (S.freezeN n h hn).2⟩
/-- behind a call that was handed L, whatever it may change now -/
theorem Sy.backG (S : Sy e B H (L ++ R)) (T : Sy ⟨L.map (·.1), [], B, H⟩ B' H' L') : Same B B' ∧ Sy e B' H' (L' ++ R) ∧ ∀ p ∈ L', p.1 ∈ L.map (·.1) ∨ (H p.1 = Option.none ∧ e.H p.1 = Option.none) := by
  have nd := S.nd
  rw [List.map_append] at nd
  have nR : ∀ p ∈ R, p.1 ∉ L.map (·.1) := fun p hp hm => (List.nodup_append.mp nd).2.2 _ hm _ (List.mem_map.mpr ⟨p, hp, rfl⟩) rfl
  have hnew : ∀ p ∈ L', p.1 ∈ L.map (·.1) ∨ (H p.1 = Option.none ∧ e.H p.1 = Option.none) := fun p hp => by
    obtain ⟨_, _, r3, _⟩ := T.led p hp
    rcases r3 with z | z
    · exact .inl z
    · refine .inr ⟨z, ?_⟩
      cases q : e.H p.1 with
      | none => rfl
      | some x => exact absurd z (S.there p.1 (by rw [q]; simp))
  have frR : ∀ p ∈ R, B' p.1 = Option.none := fun p hp => by
    obtain ⟨s1, s2, s3, s4⟩ := S.led p (List.mem_append_right _ hp)
    rcases T.fresh p.1 (by show H p.1 ≠ _; rw [s1]; simp) s2 with z | ⟨xs, z⟩
    · exact z
    · have h1 := T.keep p.1 p.2 (nR p hp) (by simp) s1
      have h2 := T.bh.tup z
      rw [h1] at h2
      exact absurd (Option.some.inj h2) (S.nt p (List.mem_append_right _ hp) xs)
  refine ⟨T.b0, ⟨S.b0.trans T.b0, T.bh, fun p hp => ?_, ?_, fun a x h1 h2 q => ?_, fun a r1 r2 => ?_, fun a r => T.there a (S.there a r), fun p hp => ?_, fun a x q hk => ?_, fun p hp => (List.mem_append.mp hp).elim (T.nt p) (fun z => S.nt p (List.mem_append_right _ z))⟩, hnew⟩
  · rcases List.mem_append.mp hp with hp | hp
    · obtain ⟨r1, r2, r3, r4⟩ := T.led p hp
      refine ⟨r1, r2, ?_, ?_⟩
      · rcases hnew p hp with hm | ⟨_, hm⟩
        · obtain ⟨q, hq, eq⟩ := List.mem_map.mp hm
          rw [← eq]; exact (S.led q (List.mem_append_left _ hq)).2.2.1
        · exact .inr hm
      · rcases hnew p hp with hm | ⟨hm, _⟩
        · obtain ⟨q, hq, eq⟩ := List.mem_map.mp hm
          rw [← eq]; exact (S.led q (List.mem_append_left _ hq)).2.2.2
        · intro z
          obtain ⟨q, hq, e1⟩ := List.mem_map.mp z
          have := S.zin q hq
          rw [show q.1 = p.1 from e1, hm] at this; cases this
    · obtain ⟨s1, s2, s3, s4⟩ := S.led p (List.mem_append_right _ hp)
      exact ⟨T.keep p.1 p.2 (nR p hp) (by simp) s1, frR p hp, s3, s4⟩
  · rw [List.map_append]
    refine List.nodup_append.mpr ⟨T.nd, (List.nodup_append.mp nd).2.1, fun x hx y hy hxy => ?_⟩
    subst hxy
    obtain ⟨p, hp, ep⟩ := List.mem_map.mp hx
    obtain ⟨r, hr, er⟩ := List.mem_map.mp hy
    rcases hnew p hp with hm | ⟨hm, _⟩
    · rw [show p.1 = x from ep] at hm
      exact nR r hr (by rw [show r.1 = x from er]; exact hm)
    · have q2 := (S.led r (List.mem_append_right _ hr)).1
      rw [show r.1 = x from er, ← show p.1 = x from ep, hm] at q2
      cases q2
  · have r := S.keep a x h1 h2 q
    refine T.keep a x (fun hm => ?_) (by simp) r
    obtain ⟨p, hp, eq⟩ := List.mem_map.mp hm
    obtain ⟨s1, s2, s3, s4⟩ := S.led p (List.mem_append_left _ hp)
    rw [show p.1 = a from eq] at s3
    rcases s3 with z | z
    · exact h1 z
    · rw [q] at z; cases z
  · rcases S.fresh a r1 r2 with z | ⟨xs, z⟩
    · exact T.fresh a (S.there a r1) z
    · exact .inr ⟨xs, T.b0 a _ z⟩
  · refine T.keep p.1 _ (fun hm => ?_) (by simp) (S.zin p hp)
    obtain ⟨q, hq, eq⟩ := List.mem_map.mp hm
    exact (S.led q (List.mem_append_left _ hq)).2.2.2 (List.mem_map.mpr ⟨p, hp, eq.symm⟩)
  · rcases T.lk a x q hk with z | z | ⟨ob, u, z⟩
    · exact .inl z
    · exact absurd z (by simp)
    · have z : H a = some (.frz ob u) := z
      cases r : B a with
      | none =>
        rcases T.fresh a (by show H a ≠ _; rw [z]; simp) r with this | ⟨xs, this⟩
        · rw [q] at this; cases this
        · rw [q] at this; cases this; exact hk.elim
      | some y =>
        have e1 : B' a = some y := T.b0 a y r
        rw [q] at e1; cases e1
        rcases S.lk a x r hk with z2 | z2 | z2
        · rw [z] at z2; cases z2; exact hk.elim
        · exact .inr (.inl z2)
        · exact .inr (.inr z2)
/-- one of the ledger is handed over -/
theorem Sy.handN (S : Sy e B H L) (n : Nat) (h : L[n]? = some (a, o)) : Hand B H [(a, o)] := (S.front n h).hand1
theorem Sy.backN1 (S : Sy e B H L) (n : Nat) (h : L[n]? = some (a, o)) (T : Sy ⟨[a], [], B, H⟩ B' H' [(a, o')]) : Sy e B' H' (L.set n (a, o')) := ((S.front n h).back1 T).perm (led_unerase h _)
end
/-! ### == and in of plain data -/
section
variable {X : Cx} {K : PySem.W.Frag}
/-- no dict, not deep -/
structure Pl (d : PyData) : Prop where
  pl : d.plain = true
  dp : d.depth ≤ 50
def rEqP (K : PySem.W.Frag) : R2 := fun x y H Q => ∃ d e, Dp K H x d ∧ Dp K H y e ∧ Pl d ∧ Pl e ∧ Q (.bl (PyData.eqv d e)) H
def rNeP (K : PySem.W.Frag) : R2 := fun x y H Q => ∃ d e, Dp K H x d ∧ Dp K H y e ∧ Pl d ∧ Pl e ∧ Q (.bl (!PyData.eqv d e)) H
theorem op_eqP (hu : X.A.units + 64 < cLine) : OpR X (compareOp .Eq) (rEqP X.K) := by
  intro pins s σ H x y v u Q I rx ry h
  obtain ⟨d, e, hd, he, sd, se, q⟩ := h
  obtain ⟨as, r1⟩ := Dp.reads I d x v hd rx
  obtain ⟨bs, r2⟩ := Dp.reads I e y u he ry
  exact SeqAt.eq_plain r1 r2 sd.pl se.pl (by have := sd.dp; have : min d.depth e.depth ≤ d.depth := Nat.min_le_left _ _; omega) ⟨.bl _, H, I, rfl, q⟩
theorem op_neP (hu : X.A.units + 64 < cLine) : OpR X (compareOp .NotEq) (rNeP X.K) := by
  intro pins s σ H x y v u Q I rx ry h
  obtain ⟨d, e, hd, he, sd, se, q⟩ := h
  obtain ⟨as, r1⟩ := Dp.reads I d x v hd rx
  obtain ⟨bs, r2⟩ := Dp.reads I e y u he ry
  exact SeqAt.ne_plain r1 r2 sd.pl se.pl (by have := sd.dp; have : min d.depth e.depth ≤ d.depth := Nat.min_le_left _ _; omega) ⟨.bl _, H, I, rfl, q⟩
def rInP (K : PySem.W.Frag) (neg : Bool) : R2 := fun x y H Q => ∃ d ds, Dp K H x d ∧ (Dp K H y (.list ds) ∨ Dp K H y (.tuple ds)) ∧ d.plain = true ∧ PyData.plainAll ds = true ∧ d.depth ≤ 50 ∧ Q (.bl (neg ^^ ds.any fun z => PyData.eqv z d)) H
theorem op_inP (hu : X.A.units + 64 < cLine) : OpR X (compareOp .In) (rInP X.K false) := by
  intro pins s σ H x y v u Q I rx ry h
  obtain ⟨d, ds, hd, he, sd, se, dd, q⟩ := h
  obtain ⟨as, r1⟩ := Dp.reads I d x v hd rx
  have hm : min (PyData.depthAll ds) d.depth ≤ d.depth := Nat.min_le_right _ _
  rw [Bool.false_xor] at q
  rcases he with he | he
  · obtain ⟨bs, r2⟩ := Dp.reads I _ y u he ry
    exact SeqAt.in_list_data r2 r1 se sd (by omega) ⟨.bl _, H, I, rfl, q⟩
  · obtain ⟨bs, r2⟩ := Dp.reads I _ y u he ry
    exact SeqAt.in_tuple_data r2 r1 se sd (by omega) ⟨.bl _, H, I, rfl, q⟩
theorem op_notInP (hu : X.A.units + 64 < cLine) : OpR X (compareOp .NotIn) (rInP X.K true) := by
  intro pins s σ H x y v u Q I rx ry h
  obtain ⟨d, ds, hd, he, sd, se, dd, q⟩ := h
  obtain ⟨as, r1⟩ := Dp.reads I d x v hd rx
  have hm : min (PyData.depthAll ds) d.depth ≤ d.depth := Nat.min_le_right _ _
  rw [Bool.true_xor] at q
  rcases he with he | he
  · obtain ⟨bs, r2⟩ := Dp.reads I _ y u he ry
    exact SeqAt.notIn_list_data r2 r1 se sd (by omega) ⟨.bl _, H, I, rfl, q⟩
  · obtain ⟨bs, r2⟩ := Dp.reads I _ y u he ry
    exact SeqAt.notIn_tuple_data r2 r1 se sd (by omega) ⟨.bl _, H, I, rfl, q⟩
def rEqZ (K : PySem.W.Frag) : R2 := fun x y H Q => rEqU K x y H Q ∨ rEqP K x y H Q
theorem op_eqZ (hK : X.K = K) (hu : X.A.units + 64 < cLine) : OpR X (compareOp .Eq) (rEqZ K) := hK ▸ OpR.or (op_eqU rfl hu) (op_eqP hu)
def rNeZ (K : PySem.W.Frag) : R2 := fun x y H Q => rNeU K x y H Q ∨ rNeP K x y H Q
theorem op_neZ (hK : X.K = K) (hu : X.A.units + 64 < cLine) : OpR X (compareOp .NotEq) (rNeZ K) := hK ▸ OpR.or (op_neU rfl hu) (op_neP hu)
def rInZ (K : PySem.W.Frag) : R2 := fun x y H Q => rInU K x y H Q ∨ rInP K false x y H Q
theorem op_inZ (hK : X.K = K) (hu : X.A.units + 64 < cLine) : OpR X (compareOp .In) (rInZ K) := hK ▸ OpR.or (op_inU rfl (by omega)) (op_inP hu)
def rNotInZ (K : PySem.W.Frag) : R2 := fun x y H Q => rNotInU K x y H Q ∨ rInP K true x y H Q
theorem op_notInZ (hK : X.K = K) (hu : X.A.units + 64 < cLine) : OpR X (compareOp .NotIn) (rNotInZ K) := hK ▸ OpR.or (op_notInU rfl (by omega)) (op_notInP hu)
end
/-! ### data by their types -/
theorem depthAll_le {n : Nat} : ∀ {ds : List PyData}, (∀ d ∈ ds, d.depth ≤ n) → PyData.depthAll ds ≤ n
  | [], _ => by simp [PyData.depthAll]
  | d :: ds, h => by
    have h1 := h d List.mem_cons_self
    have h2 := depthAll_le (ds := ds) fun x hx => h x (List.mem_cons_of_mem _ hx)
    rw [PyData.depthAll]
    omega
theorem plainAll_of : ∀ {ds : List PyData}, (∀ d ∈ ds, d.plain = true) → PyData.plainAll ds = true
  | [], _ => rfl
  | d :: ds, h => by
    rw [PyData.plainAll, h d List.mem_cons_self, plainAll_of fun x hx => h x (List.mem_cons_of_mem _ hx)]
    rfl
structure Cod (α : Type) where
  enc : α → PyData
  dep : Nat
  pl : ∀ x, (enc x).plain = true
  dp : ∀ x, (enc x).depth ≤ dep
  eq : ∀ x y, PyData.eqv (enc x) (enc y) = true ↔ x = y
namespace Cod
def int : Cod Int := ⟨.int, 1, fun _ => rfl, fun _ => by simp [PyData.depth], fun x y => by simp [PyData.eqv]⟩
def str : Cod Str := ⟨.str, 1, fun _ => rfl, fun _ => by simp [PyData.depth], fun x y => by simp [PyData.eqv]⟩
def bool : Cod Bool := ⟨.bool, 1, fun _ => rfl, fun _ => by simp [PyData.depth], fun x y => by simp [PyData.eqv]⟩
def optE {α : Type} (c : Cod α) : Option α → PyData
  | none => .none
  | some x => c.enc x
theorem eqvAll_map {α : Type} (c : Cod α) : ∀ xs ys : List α, PyData.eqvAll (xs.map c.enc) (ys.map c.enc) = true ↔ xs = ys
  | [], [] => by simp [PyData.eqvAll]
  | [], _ :: _ => by simp [PyData.eqvAll]
  | _ :: _, [] => by simp [PyData.eqvAll]
  | x :: xs, y :: ys => by
    simp only [List.map_cons, PyData.eqvAll, Bool.and_eq_true, c.eq, eqvAll_map c xs ys, List.cons.injEq]
def list {α : Type} (c : Cod α) : Cod (List α) := ⟨fun xs => .list (xs.map c.enc), c.dep + 1, fun xs => by
    rw [PyData.plain]
    exact plainAll_of fun d hd => by obtain ⟨x, _, rfl⟩ := List.mem_map.mp hd; exact c.pl x, fun xs => by
    rw [PyData.depth]
    have := depthAll_le (n := c.dep) (ds := xs.map c.enc) fun d hd => by obtain ⟨x, _, rfl⟩ := List.mem_map.mp hd; exact c.dp x
    omega, fun xs ys => by rw [PyData.eqv]; exact eqvAll_map c xs ys⟩
def tup2 {α β : Type} (c : Cod α) (d : Cod β) : Cod (α × β) := ⟨fun x => .tuple [c.enc x.1, d.enc x.2], max c.dep d.dep + 1, fun x => by simp [PyData.plain, PyData.plainAll, c.pl, d.pl], fun x => by
    have h1 := c.dp x.1
    have h2 := d.dp x.2
    simp only [PyData.depth, PyData.depthAll]
    omega, fun x y => by
    simp only [PyData.eqv, PyData.eqvAll, Bool.and_true, Bool.and_eq_true, c.eq, d.eq]
    exact ⟨fun h => Prod.ext h.1 h.2, fun h => by rw [h]; exact ⟨rfl, rfl⟩⟩⟩
def optI : Cod (Option Int) := ⟨optE int, 1, fun x => by cases x <;> rfl, fun x => by cases x <;> simp [optE, int, PyData.depth], fun x y => by
    cases x <;> cases y <;> simp [optE, int, PyData.eqv]⟩
end Cod
/-- v stands for x -/
def At {α : Type} (c : Cod α) (K : PySem.W.Frag) (B : Hp) (v : V) (x : α) : Prop := Dp K B v (c.enc x)
section
variable {α β : Type} {c : Cod α} {K : PySem.W.Frag} {e : En} {B B' H H' : Hp} {L : Led} {a p : Addr} {v u x y : V} {xs vs : List V} {Q : VK}
theorem At.up {z : α} (s : Same B B') (h : At c K B v z) : At c K B' v z := up_d s h
theorem at_up (B B' : Hp) (v : V) (z : α) (s : Same B B') (h : At c K B v z) : At c K B' v z := up_d s h
theorem At.int {i : Int} : At .int K B (.int i) i := Dp.int i
theorem At.str {i : Str} : At .str K B (.str i) i := Dp.str i
theorem At.bool {i : Bool} : At .bool K B (.bl i) i := Dp.bl i
theorem at_int {i : Int} (h : At .int K B v i) : v = .int i := by cases h; rfl
theorem at_str {i : Str} (h : At .str K B v i) : v = .str i := by cases h; rfl
theorem at_bool {i : Bool} (h : At .bool K B v i) : v = .bl i := by cases h; rfl
theorem dpAll_of : ∀ {vs : List V} {zs : List α}, Paired (At c K B) vs zs → DpAll K B vs (zs.map c.enc)
  | _, _, .nil => .nil
  | _, _, .cons h t => .cons h (dpAll_of t)
theorem of_dpAll : ∀ {vs : List V} {zs : List α}, DpAll K B vs (zs.map c.enc) → Paired (At c K B) vs zs
  | _, [], h => by cases h; exact .nil
  | _, _ :: _, h => by cases h with | cons h t => exact .cons h (of_dpAll t)
theorem at_list {zs : List α} (h : At (.list c) K B v zs) : ∃ a vs, v = .ref a ∧ SqL K B a vs ∧ Paired (At c K B) vs zs := by
  cases h with
  | lst h1 h2 => exact ⟨_, _, rfl, h1, of_dpAll h2⟩
theorem at_list_ref {zs : List α} (h : At (.list c) K B (.ref a) zs) : ∃ vs, SqL K B a vs ∧ Paired (At c K B) vs zs := by
  cases h with
  | lst h1 h2 => exact ⟨_, h1, of_dpAll h2⟩
theorem At.list {zs : List α} (h1 : SqL K B a vs) (h2 : Paired (At c K B) vs zs) : At (.list c) K B (.ref a) zs := .lst h1 (dpAll_of h2)
theorem at_tup2 {d : Cod β} {z : α × β} (h : At (.tup2 c d) K B v z) : ∃ a v1 v2, v = .ref a ∧ SqT K B a [v1, v2] ∧ At c K B v1 z.1 ∧ At d K B v2 z.2 := by
  cases h with
  | tup h1 h2 =>
    cases h2 with
    | cons g1 h2 =>
      cases h2 with
      | cons g2 h2 =>
        cases h2
        exact ⟨_, _, _, rfl, h1, g1, g2⟩
theorem At.tup2 {d : Cod β} {z : α × β} {v1 v2 : V} (h : SqT K B a [v1, v2]) (h1 : At c K B v1 z.1) (h2 : At d K B v2 z.2) : At (.tup2 c d) K B (.ref a) z := .tup h (.cons h1 (.cons h2 .nil))
theorem Cod.Pl (c : Cod α) (z : α) (h : c.dep ≤ 50) : Pl (c.enc z) := ⟨c.pl z, Nat.le_trans (c.dp z) h⟩
theorem Cod.dec [DecidableEq α] (c : Cod α) (z w : α) : PyData.eqv (c.enc z) (c.enc w) = decide (z = w) := by
  rw [Bool.eq_iff_iff, c.eq]
  simp
/-- == of two of a type -/
theorem y_eqC [DecidableEq α] (c : Cod α) {z w : α} (S : Sy e B H L) (h1 : At c K B x z) (h2 : At c K B y w) (hd : c.dep ≤ 50) (q : Q (.bl (decide (z = w))) H) : rEqZ K x y H Q :=
  .inr ⟨_, _, S.d h1, S.d h2, c.Pl z hd, c.Pl w hd, by rw [c.dec]; exact q⟩
theorem y_neC [DecidableEq α] (c : Cod α) {z w : α} (S : Sy e B H L) (h1 : At c K B x z) (h2 : At c K B y w) (hd : c.dep ≤ 50) (q : Q (.bl (!decide (z = w))) H) : rNeZ K x y H Q :=
  .inr ⟨_, _, S.d h1, S.d h2, c.Pl z hd, c.Pl w hd, by rw [c.dec]; exact q⟩
theorem any_enc [DecidableEq α] (c : Cod α) (z : α) (zs : List α) : ((zs.map c.enc).any fun d => PyData.eqv d (c.enc z)) = decide (z ∈ zs) := by
  rw [List.any_map, Bool.eq_iff_iff, List.any_eq_true]
  simp only [Function.comp_apply, c.eq, decide_eq_true_eq]
  constructor
  · rintro ⟨w, h1, rfl⟩; exact h1
  · intro h; exact ⟨z, h, rfl⟩
theorem y_inC [DecidableEq α] (c : Cod α) {z : α} {zs : List α} (S : Sy e B H L) (h1 : At c K B x z) (h2 : At (.list c) K B y zs) (hd : c.dep ≤ 50) (q : Q (.bl (decide (z ∈ zs))) H) : rInZ K x y H Q :=
  .inr ⟨_, _, S.d h1, .inl (S.d h2), c.pl z, plainAll_of fun d hd => (by obtain ⟨x, _, rfl⟩ := List.mem_map.mp hd; exact c.pl x), Nat.le_trans (c.dp z) hd, by rw [any_enc, Bool.false_xor]; exact q⟩
end
end Y
/-! Steps over the ledger by index; comprehensions over data; texts; kinds. -/
namespace Y
open PySem PySem.Spec PyProof.Rows L2
section
variable {K : PySem.W.Frag} {σ : L2.St} {e : En} {B B' H : Hp} {L : Led} {Q : VK} {E : XK} {te to : TE} {tt : TT} {ta : TA} {v x y : V} {xs ys vs ws : List V} {a b p l : Addr} {o : HO} {nx bk ct : L2.St → Hp → Prop} {rt : VK} {g : TG} {tb : TS} {φ : Ph}
theorem y_app (n : Nat) (S : Sy e B H L) (h : L[n]? = some (l, .lst xs)) (hl : xs.length < sizeLine) (k : ∀ H', Sy e B H' (L.set n (l, .lst (xs ++ [v]))) → Q .non H') : rAppend (.ref l) [v] H Q :=
  ⟨l, xs, v, rfl, rfl, S.at n h, hl, k _ (S.wr n h _)⟩
theorem y_ext (n : Nat) (S : Sy e B H L) (h : L[n]? = some (l, .lst xs)) (hb : H b = some (.lst ys)) (hl : xs.length + ys.length ≤ sizeLine) (k : ∀ H', Sy e B H' (L.set n (l, .lst (xs ++ ys))) → Q .non H') : rExtend (.ref l) [.ref b] H Q :=
  ⟨l, b, xs, ys, rfl, rfl, S.at n h, hb, hl, k _ (S.wr n h _)⟩
theorem y_setD {d : Addr} {kvs : List (Key × V)} {kk : Key} {N : Hp → Prop} (n : Nat) (S : Sy e B H L) (h : L[n]? = some (d, .dK kvs)) (hk : x = kV kk) (hl : kvs.length < sizeLine) (k : ∀ H', Sy e B H' (L.set n (d, .dK (putK kvs kk v))) → N H') : rSetU (.ref d) x v H N := .inr ⟨d, _, rfl, .inl ⟨kvs, kk, S.at n h, hk, hl, rfl⟩, k _ (S.wr n h _)⟩
/-- a call, handed the n-th of the ledger -/
theorem y_spN (n : Nat) (S : Sy e B H L) (h : L[n]? = some (a, o)) (k : φ B vs [(a, o)] fun B' v L' => ∀ H', Sy ⟨[a], [], B, H⟩ B' H' L' → Q v H') : spY φ vs H Q E := ⟨B, [(a, o)], S.handN n h, k⟩
/-- draws by the bag -/
theorem y_drawN {m : Nat} {many : Int} (n : Nat) (S : Sy e B H L) (h : L[n]? = some (b, o)) (hb : Bag m o) (hm : 0 < m) (h0 : 0 < many) (h1 : many < 2 ^ 100)
    (k : ∀ i o' H', 0 ≤ i → i < many → Bag (m - 1) o' → Sy e B H' (L.set n (b, o')) → Q (.int i) H') : spY φ_draw [.ref b, .int many] H Q E :=
  y_spN n S h ⟨b, o, many, m - 1, rfl, rfl, hb.mono (by omega), h0, h1, fun i o' a1 a2 a3 H' T => k i o' H' a1 a2 a3 (S.backN1 n h T)⟩
/-- a member of a list by a drawn place -/
theorem y_ixM {i : Int} (h : SqL K H p xs) (h0 : 0 ≤ i) (h1 : i < xs.length) (q : ∀ v, v ∈ xs → Q v H) : rIxU K (.ref p) (.int i) H Q := by
  obtain ⟨v, hv⟩ : ∃ v, xs[i.toNat]? = some v := ⟨_, List.getElem?_eq_getElem (show i.toNat < xs.length by omega)⟩
  exact y_ixL h (atI_of h0 hv) (q v (List.mem_of_getElem? hv))
theorem y_ixC {α : Type} {c : Cod α} {zs : List α} {i : Int} (S : Sy e B H L) (h : At (.list c) K B (.ref p) zs) (h0 : 0 ≤ i) (h1 : i < zs.length) (q : ∀ v z, zs[i.toNat]? = some z → At c K B v z → Q v H) : rIxU K (.ref p) (.int i) H Q := by
  obtain ⟨vs, h2, h3⟩ := at_list_ref h
  obtain ⟨z, hz⟩ : ∃ z, zs[i.toNat]? = some z := ⟨_, List.getElem?_eq_getElem (show i.toNat < zs.length by omega)⟩
  obtain ⟨v, hv, hvz⟩ := pr_get h3 hz
  exact y_ixL (S.l h2) (atI_of h0 hv) (q v z hz hvz)
/-! ### comprehensions over data -/
theorem y_lcC {α β : Type} {cx : Cod α} {cy : Cod β} {zs : List α} {ns : List Nat} (f : α → Option β) (S : Sy e B H L) (h : At (.list cx) K B (.ref a) zs) (hn : zs.length ≤ 100000)
    (hs : ∀ (i : Nat) z x B1 H1 D acc (Kp : VK) (Kn : Hp → Prop), zs[i]? = some z → Same B B1 → At cx K B1 x z → Sy e B1 H1 ((D, .lst acc) :: L) →
      (∀ y w B4 H4, f z = some w → Same B1 B4 → At cy K B4 y w → Sy e B4 H4 ((D, .lst acc) :: L) → Kp y H4) → (∀ B4 H4, f z = none → Same B1 B4 → Sy e B4 H4 ((D, .lst acc) :: L) → Kn H4) →
      g x (wipe σ ns) H1 fun σ2 H2 => wipe σ2 ns = wipe σ ns ∧ tt σ2 H2 fun b H3 => if b = true then te σ2 H3 Kp else Kn H3)
    (hd : ∀ D B' H' acc, Same B B' → e.H D = none → Paired (At cy K B') acc (zs.filterMap f) → Sy e B' H' ((D, .lst acc) :: L) → Q (.ref D) H') : LcG (Itl K a) g tt te ns σ Q H := by
  obtain ⟨vs, h2, h3⟩ := at_list_ref h
  have hl : vs.length = zs.length := h3.length
  refine y_lcRel (At cy K) at_up (walk_list (xs := vs)) S (by omega) (fun i => zs[i]?.bind f) (fun B1 H1 D acc b1 S1 => S1.l (up_l b1 h2)) (fun i x B1 H1 H1' acc D Kp Kn hi b1 S1 hy kp kn => ?_) (fun B1 H1 acc D b1 hD hp S1 => ?_)
  · obtain ⟨rfl, e2⟩ := hy
    obtain ⟨z, hz, hxz⟩ := pr_getL h3 e2
    exact hs i z x B1 _ D acc Kp Kn hz b1 (hxz.up b1) S1 (fun y w B4 H4 e1 => kp y w B4 H4 (by rw [hz]; exact e1)) (fun B4 H4 e1 => kn B4 H4 (by rw [hz]; exact e1))
  · rw [hl, range_bind] at hp
    exact hd D B1 H1 acc b1 hD hp S1
/-- .. the result is changed no more -/
theorem y_lcI {α β : Type} {cx : Cod α} {cy : Cod β} {zs : List α} {ns : List Nat} (f : α → Option β) (S : Sy e B H L) (h : At (.list cx) K B (.ref a) zs) (hn : zs.length ≤ 100000)
    (hs : ∀ (i : Nat) z x B1 H1 D acc (Kp : VK) (Kn : Hp → Prop), zs[i]? = some z → Same B B1 → At cx K B1 x z → Sy e B1 H1 ((D, .lst acc) :: L) →
      (∀ y w B4 H4, f z = some w → Same B1 B4 → At cy K B4 y w → Sy e B4 H4 ((D, .lst acc) :: L) → Kp y H4) → (∀ B4 H4, f z = none → Same B1 B4 → Sy e B4 H4 ((D, .lst acc) :: L) → Kn H4) →
      g x (wipe σ ns) H1 fun σ2 H2 => wipe σ2 ns = wipe σ ns ∧ tt σ2 H2 fun b H3 => if b = true then te σ2 H3 Kp else Kn H3)
    (hd : ∀ D B' H', Same B B' → e.H D = none → At (.list cy) K B' (.ref D) (zs.filterMap f) → Sy e B' H' L → Q (.ref D) H') : LcG (Itl K a) g tt te ns σ Q H := by
  refine y_lcC f S h hn hs fun D B1 H1 acc b1 hD hp S1 => ?_
  obtain ⟨b2, S2⟩ := S1.freeze hD
  exact hd D _ H1 (b1.trans b2) hD (.list (sqL upd_same) (pr_up at_up b2 hp)) S2
/-- one thing for each round; the ledger moves -/
theorem y_lcGen {β : Type} (c : Cod β) {J : It} {n : Nat} {G : Hp → Prop} {Y : Nat → Hp → V → Hp → Prop} {ns : List Nat} (good : β → Prop) (PL : Nat → Led → Prop) (w : Walk J n G Y) (S : Sy e B H L) (hn : n ≤ 100000) (h0 : PL 0 L)
    (hG : ∀ i B1 H1 D acc L1, Same B B1 → PL i L1 → Sy e B1 H1 ((D, .lst acc) :: L1) → G H1)
    (hs : ∀ i x B1 H1 H1' acc D L1 (Kp : VK) (Kn : Hp → Prop), i < n → Same B B1 → PL i L1 → Sy e B1 H1 ((D, .lst acc) :: L1) → Y i H1 x H1' →
      (∀ y z B4 H4 L4, good z → Same B1 B4 → At c K B4 y z → PL (i + 1) L4 → Sy e B4 H4 ((D, .lst acc) :: L4) → Kp y H4) →
      g x (wipe σ ns) H1' fun σ2 H2 => wipe σ2 ns = wipe σ ns ∧ tt σ2 H2 fun b H3 => if b = true then te σ2 H3 Kp else Kn H3)
    (hd : ∀ B1 H1 acc D L1 zs, Same B B1 → e.H D = none → zs.length = n → (∀ z ∈ zs, good z) → Paired (At c K B1) acc zs → PL n L1 → Sy e B1 H1 ((D, .lst acc) :: L1) → Q (.ref D) H1) : LcG J g tt te ns σ Q H := by
  refine y_lcG w S (fun i B1 acc L1 => PL i L1 ∧ i ≤ n ∧ ∃ zs : List β, zs.length = i ∧ (∀ z ∈ zs, good z) ∧ Paired (At c K B1) acc zs) ⟨h0, Nat.zero_le _, [], rfl, fun z h => (by cases h), .nil⟩ ?_ ?_ ?_
  · rintro i B1 H1 acc L1 D ⟨h1, _⟩ b1 S1
    exact hG i B1 H1 D acc L1 b1 h1 S1
  · rintro i x B1 H1 H1' acc L1 D Kp Kn hi ⟨h1, _, zs, e1, hg, hp⟩ b1 hD S1 hy kp kn
    refine hs i x B1 H1 H1' acc D L1 Kp Kn hi b1 h1 S1 hy (fun y z B4 H4 L4 gz b4 hy4 hP S4 => ?_)
    have hal : acc.length = i := by rw [← e1]; exact hp.length
    refine kp y H4 ⟨B4, acc, L4, S4, b1.trans b4, Nat.lt_of_lt_of_le (Nat.lt_of_le_of_lt (Nat.le_of_eq hal) hi) (Nat.le_trans hn (by rw [sizeLine_eq]; decide)), hP, hi, zs ++ [z], by simp [e1], fun q hq => ?_, Paired.snoc (pr_up at_up b4 hp) hy4⟩
    rcases List.mem_append.mp hq with hq | hq
    · exact hg q hq
    · have : q = z := by simpa using hq
      rw [this]; exact gz
  · rintro B1 H1 acc L1 D ⟨h1, _, zs, e1, hg, hp⟩ b1 hD S1
    exact hd B1 H1 acc D L1 zs b1 hD e1 hg hp h1 S1
/-! ### loops over data -/
theorem y_forC {α : Type} {c : Cod α} {zs : List α} (Pv : Nat → L2.St → Hp → Prop) (h : At (.list c) K B (.ref a) zs) (h0 : Pv 0 σ H) (hG : ∀ i σ H, i ≤ zs.length → Pv i σ H → ∃ B' L', Same B B' ∧ Sy e B' H L')
    (hs : ∀ i x z σ H, zs[i]? = some z → At c K B x z → Pv i σ H → g x σ H fun σ2 H2 => tb ⟨Pv (i + 1), rt, nx, Pv (i + 1)⟩ σ2 H2) (hd : ∀ σ H, Pv zs.length σ H → nx σ H) : ForG (Itl K a) g tb ⟨nx, rt, bk, ct⟩ σ H := by
  obtain ⟨vs, h2, h3⟩ := at_list_ref h
  have hl : vs.length = zs.length := h3.length
  refine y_forL (xs := vs) Pv h0 (fun i σ H hi hp => ?_) (fun i x σ H hx hp => ?_) (fun σ H hp => hd σ H (by rw [← hl]; exact hp))
  · obtain ⟨B', L', b, S⟩ := hG i σ H (by omega) hp
    exact S.l (up_l b h2)
  · obtain ⟨z, hz, hxz⟩ := pr_getL h3 hx
    exact hs i x z σ H hz hxz hp
/-! ### texts -/
theorem y_m0 {r : V → List V → Hp → VK → Prop} (h : to σ H fun x H1 => (∃ a, x = .str a) ∧ r x [] H1 Q) : tM0 r to σ H Q := h
theorem y_m1 {r : V → List V → Hp → VK → Prop} (h : to σ H fun x H1 => (∃ a, x = .str a) ∧ te σ H1 fun y H2 => r x [y] H2 Q) : tM1 r to te σ H Q := h
def rJoin (K : PySem.W.Frag) : V → List V → Hp → VK → Prop := fun x xs H Q => ∃ a p, ∃ ys : List Str, x = .str a ∧ xs = [.ref p] ∧ (SqL K H p (ys.map V.str) ∨ SqT K H p (ys.map V.str)) ∧ (ys.map (·.length)).sum + ys.length * a.length ≤ 16777216 ∧ Q (.str (Txt.join a ys)) H
theorem pe_joinU {X : Cx} {o e : Expr} {to te : TE} {apos pos : Pos} (hK : X.K = K) (ho : PE X o to) (he : PE X e te) (hs : starEach [e] X.env = [(false, eval e X.env)] := by rfl) (hbase : attributeBase o "join" X.env (eval o X.env) = eval o X.env := by rfl) (hline : (apos.endLine == pos.line) = true := by rfl) :
    PE X (.Call (.Attribute o "join" apos) [e] [] pos) (tM1 (rJoin K) to te) := hK ▸ pe_join ho he hs hbase hline
theorem strs_of : ∀ {vs : List V} {zs : List Str}, Paired (At .str K B) vs zs → vs = zs.map V.str
  | _, _, .nil => rfl
  | _, _, .cons h t => by rw [at_str h, strs_of t]; rfl
theorem ints_of : ∀ {vs : List V} {zs : List Int}, Paired (At .int K B) vs zs → vs = zs.map V.int
  | _, _, .nil => rfl
  | _, _, .cons h t => by rw [at_int h, ints_of t]; rfl
theorem bools_of : ∀ {vs : List V} {zs : List Bool}, Paired (At .bool K B) vs zs → vs = zs.map V.bl
  | _, _, .nil => rfl
  | _, _, .cons h t => by rw [at_bool h, bools_of t]; rfl
theorem y_join {z : Str} {zs : List Str} (h : SqL K H p (zs.map V.str)) (hl : (zs.map (·.length)).sum + zs.length * z.length ≤ 16777216) (q : Q (.str (Txt.join z zs)) H) : rJoin K (.str z) [.ref p] H Q := ⟨z, p, zs, rfl, rfl, .inl h, hl, q⟩
/-! ### kinds -/
/-- a value of a built-in kind -/
inductive Kd (K : PySem.W.Frag) (B : Hp) : V → String → Prop where
  | non : Kd K B .non "NoneType"
  | bl (b : Bool) : Kd K B (.bl b) "bool"
  | int (i : Int) : Kd K B (.int i) "int"
  | str (z : Str) : Kd K B (.str z) "str"
  | lst {a : Addr} {xs : List V} (h : SqL K B a xs) : Kd K B (.ref a) "list"
  | tup {a : Addr} {xs : List V} (h : SqT K B a xs) : Kd K B (.ref a) "tuple"
  | dic {a : Addr} {kvs : List (Key × V)} (h : Rd B a (.dK kvs)) : Kd K B (.ref a) "dict"
theorem Kd.up {s : String} (b : Sub B B') (h : Kd K B v s) : Kd K B' v s := by
  cases h with
  | non => exact .non
  | bl b => exact .bl b
  | int i => exact .int i
  | str z => exact .str z
  | lst h => exact .lst (b.l h)
  | tup h => exact .tup (b.t h)
  | dic h => exact .dic (b.rd h)
theorem Kd.ty {s : String} (h : Kd K H v s) : TyX K H v (.type s) := by
  cases h with
  | non => exact .base .non
  | bl b => exact .base (.bl b)
  | int i => exact .base (.int i)
  | str z => exact .base (.str z)
  | lst h =>
    rcases h with h | ⟨o, its, n, h1, h2, _⟩
    · rcases h with h | ⟨ob, h⟩
      · exact .base (.lst h)
      · exact .base (.frz h)
    · exact .kList h1 h2
  | tup h =>
    rcases h with h | ⟨o, its, n, h1, h2, _⟩
    · rcases h with h | ⟨ob, h⟩
      · exact .base (.tup h)
      · exact .fTuple h
    · exact .kTuple h1 h2
  | dic h =>
    rcases h with h | ⟨ob, h⟩
    · exact .base (.dK h)
    · exact .fDict h
theorem y_isi {s t : String} {r : Bool} (h : Kd K H x s) (hr : kitB s t = some r) (q : Q (.bl r) H) : rIsi K [x, .ty t] H Q := ⟨x, .ty t, .type s, .type t, r, rfl, .ty t, h.ty, kit_ty hr, q⟩
def kdOf : PyData → String
  | .none => "NoneType"
  | .bool _ => "bool"
  | .int _ => "int"
  | .str _ => "str"
  | .list _ => "list"
  | .tuple _ => "tuple"
  | .dict _ => "dict"
theorem Kd.of {d : PyData} (h : Dp K B v d) : Kd K B v (kdOf d) := by
  cases h with
  | non => exact .non
  | bl b => exact .bl b
  | int i => exact .int i
  | str z => exact .str z
  | lst h _ => exact .lst h
  | tup h _ => exact .tup h
end

/-! ### the wider operators by kinds -/
section
variable {K : PySem.W.Frag} {H : Hp} {Q : VK} {x y : V}
theorem z_eqI {i j : Int} (q : Q (.bl (decide (V.int i = V.int j))) H) : rEqZ K (.int i) (.int j) H Q := .inl (y_eqI q)
theorem z_eqS {i j : Str} (q : Q (.bl (decide (V.str i = V.str j))) H) : rEqZ K (.str i) (.str j) H Q := .inl (y_eqS q)
theorem z_neI {i j : Int} (q : Q (.bl (!decide (V.int i = V.int j))) H) : rNeZ K (.int i) (.int j) H Q := .inl (y_neI q)
theorem z_neS {i j : Str} (q : Q (.bl (!decide (V.str i = V.str j))) H) : rNeZ K (.str i) (.str j) H Q := .inl (y_neS q)
theorem z_eqE {a b : Addr} {xs : List V} (h1 : SqL K H a xs) (h2 : SqL K H b []) (q : Q (.bl xs.isEmpty) H) : rEqZ K (.ref a) (.ref b) H Q := .inl (y_eqE h1 h2 q)
theorem z_neE {a b : Addr} {xs : List V} (h1 : SqL K H a xs) (h2 : SqL K H b []) (q : Q (.bl (!xs.isEmpty)) H) : rNeZ K (.ref a) (.ref b) H Q := .inl (y_neE h1 h2 q)
theorem z_neNI {i : Int} (q : Q (.bl true) H) : rNeZ K .non (.int i) H Q := .inl (.inl ⟨rfl, q⟩)
theorem z_neIN {i : Int} (q : Q (.bl true) H) : rNeZ K (.int i) .non H Q := .inl (.inl ⟨rfl, q⟩)
theorem z_neNN (q : Q (.bl false) H) : rNeZ K .non .non H Q := .inl (.inl ⟨rfl, q⟩)
theorem z_neB {i j : Bool} (q : Q (.bl (!decide (V.bl i = V.bl j))) H) : rNeZ K (.bl i) (.bl j) H Q := .inl (.inl ⟨rfl, q⟩)
theorem z_eqB {i j : Bool} (q : Q (.bl (decide (V.bl i = V.bl j))) H) : rEqZ K (.bl i) (.bl j) H Q := .inl (.inl ⟨rfl, q⟩)
theorem z_inSg {c : Nat} {z : Str} (q : Q (.bl (decide (c ∈ z.cps.toList))) H) : rInZ K (.str ⟨#[c]⟩) (.str z) H Q := .inl (y_inSg q)
theorem z_notInSg {c : Nat} {z : Str} (q : Q (.bl (!decide (c ∈ z.cps.toList))) H) : rNotInZ K (.str ⟨#[c]⟩) (.str z) H Q := .inl (y_notInSg q)
theorem z_inD {a : Addr} {kvs : List (Key × V)} {k : Key} (h : Rd H a (.dK kvs)) (hk : x = kV k) (q : Q (.bl (valV kvs k).isSome) H) : rInZ K x (.ref a) H Q := .inl (y_inD h hk q)
theorem z_notInD {a : Addr} {kvs : List (Key × V)} {k : Key} (h : Rd H a (.dK kvs)) (hk : x = kV k) (q : Q (.bl (!(valV kvs k).isSome)) H) : rNotInZ K x (.ref a) H Q := .inl (y_notInD h hk q)
end
/-- {k: v} -/
theorem y_disp1 {σ : L2.St} {e : En} {B H : Hp} {L : Led} {Q : VK} {tk tv : TE} (S : Sy e B H L) (h : ∀ p H1, e.H p = none → Sy e B H1 ((p, .dK []) :: L) → tk σ H1 fun x H2 => tv σ H2 fun y H3 => ∃ B3 kk, x = kV kk ∧ Sy e B3 H3 ((p, .dK []) :: L) ∧ ∀ H4, Sy e B3 H4 ((p, .dK [(kk, y)]) :: L) → Q (.ref p) H4)
    (mk : ∀ (H : Hp) (Q Q' : VK), (∀ x H, Q x H → Q' x H) → tk σ H Q → tk σ H Q') (mv : ∀ (H : Hp) (Q Q' : VK), (∀ x H, Q x H → Q' x H) → tv σ H Q → tv σ H Q') : tDisp [(tk, tv)] σ H Q := by
  intro p hp
  obtain ⟨h1, S1⟩ := S.newM (o := .dK []) hp
  refine mk _ _ _ (fun x H2 q => ?_) (h p _ h1 S1)
  refine mv _ _ _ (fun y H3 q => ?_) q
  obtain ⟨B3, kk, rfl, S3, q⟩ := q
  exact ⟨S3.g0, [(kk, y)], rfl, by simp, q _ (S3.w0 _)⟩
/-- a comprehension that leaves out, over a list of the ledger -/
theorem y_lcP {α : Type} {K : PySem.W.Frag} {σ : L2.St} {e : En} {B H : Hp} {L : Led} {Q : VK} {te : TE} {tt : TT} {g : TG} {a : Addr} {ws : List V} {zs : List α} {ns : List Nat} {R : Hp → V → α → Prop} (up : ∀ B B' v z, Same B B' → R B v z → R B' v z) (p : α → Bool) (n : Nat) (S : Sy e B H L) (h : L[n]? = some (a, .lst ws)) (hp : Paired (R B) ws zs) (hn : zs.length ≤ 100000)
    (hs : ∀ (i : Nat) z x B1 H1 D acc (Kp : VK) (Kn : Hp → Prop), zs[i]? = some z → Same B B1 → R B1 x z → Sy e B1 H1 ((D, .lst acc) :: L) →
      (∀ H4, p z = true → Sy e B1 H4 ((D, .lst acc) :: L) → Kp x H4) → (∀ H4, p z = false → Sy e B1 H4 ((D, .lst acc) :: L) → Kn H4) →
      g x (wipe σ ns) H1 fun σ2 H2 => wipe σ2 ns = wipe σ ns ∧ tt σ2 H2 fun b H3 => if b = true then te σ2 H3 Kp else Kn H3)
    (hd : ∀ D B' H' acc, Same B B' → e.H D = none → Paired (R B') acc (zs.filter p) → Sy e B' H' ((D, .lst acc) :: L) → Q (.ref D) H') : LcG (Itl K a) g tt te ns σ Q H := by
  have hl : ws.length = zs.length := hp.length
  refine y_lcRel R up (walk_list (xs := ws)) S (by omega) (fun i => zs[i]?.bind fun z => if p z = true then some z else none) (fun B1 H1 D acc b1 S1 => sqL (S1.at (n + 1) (by simpa using h))) (fun i x B1 H1 H1' acc D Kp Kn hi b1 S1 hy kp kn => ?_) (fun B1 H1 acc D b1 hD hq S1 => ?_)
  · obtain ⟨rfl, e2⟩ := hy
    obtain ⟨z, hz, hxz⟩ := pr_getL hp e2
    refine hs i z x B1 _ D acc Kp Kn hz b1 (up _ _ _ _ b1 hxz) S1 (fun H4 e1 S4 => kp x z B1 H4 (by rw [hz]; exact if_pos e1) (Same.refl _) (up _ _ _ _ b1 hxz) S4) (fun H4 e1 S4 => kn B1 H4 (by rw [hz]; exact if_neg (by rw [e1]; exact Bool.false_ne_true)) (Same.refl _) S4)
  · rw [hl, range_bind, fm_if] at hq
    exact hd D B1 H1 acc b1 hD hq S1
end Y
/-! Texts as lists of signs; keys. -/
namespace Y
open PySem PySem.Spec PyProof.Rows L2
/-- the signs of a text -/
abbrev sg (z : Str) : List Nat := z.cps.toList
theorem sg_len (z : Str) : (sg z).length = z.length := by simp [sg, Str.length]
theorem sg_ext {x y : Str} (h : sg x = sg y) : x = y := TL.ext_tl h
theorem sg_app (x y : Str) : sg (x ++ y) = sg x ++ sg y := TL.tl_append x y
theorem len_app (x y : Str) : (x ++ y).length = x.length + y.length := by rw [← sg_len, sg_app, List.length_append, sg_len, sg_len]
theorem len_one (c : Nat) : (⟨#[c]⟩ : Str).length = 1 := rfl
theorem sg_cut (z : Str) (lo hi : Option Int) : sg (cutS z lo hi) = ((sg z).drop (HT.sIx z.length 0 lo)).take (HT.sIx z.length z.length hi - HT.sIx z.length 0 lo) := rfl
theorem sg_cutTo (z : Str) {i : Int} (h : 0 ≤ i) : sg (cutS z none (some i)) = (sg z).take i.toNat := by
  rw [sg_cut]
  obtain ⟨n, rfl⟩ := Int.eq_ofNat_of_zero_le h
  rw [HT.sIx_none, HT.sIx_nat, List.drop_zero, Nat.sub_zero, Int.toNat_natCast, ← sg_len]
  by_cases c : n ≤ (sg z).length
  · rw [Nat.min_eq_left c]
  · rw [Nat.min_eq_right (by omega), List.take_length, List.take_of_length_le (by omega)]
theorem len_cut (z : Str) (lo hi : Option Int) : (cutS z lo hi).length ≤ z.length := cutS_length z lo hi
theorem len_cutTo (z : Str) {i : Int} (h : 0 ≤ i) : (cutS z none (some i)).length = min i.toNat z.length := by rw [← sg_len, sg_cutTo z h, List.length_take, sg_len]
theorem mem_cut {z : Str} {lo hi : Option Int} {c : Nat} (h : c ∈ sg (cutS z lo hi)) : c ∈ sg z := List.mem_of_mem_drop (List.mem_of_mem_take h)
theorem joinL_nil : ∀ ps : List (List Nat), TL.joinL [] ps = ps.flatten
  | [] => rfl
  | [p] => by simp [TL.joinL]
  | p :: q :: r => by
    rw [TL.joinL, joinL_nil (q :: r)]
    simp
theorem sg_glue {e : Str} (he : sg e = []) (zs : List Str) : sg (Txt.join e zs) = (zs.map sg).flatten := by
  show TL.tl (Txt.join e zs) = _
  rw [TL.join_eq, TL.tl_join, show TL.tl e = [] from he, joinL_nil]
/-- small letters -/
def Letters (z : Str) : Prop := ∀ c ∈ sg z, 97 ≤ c ∧ c ≤ 122
def KeyE (z : Str) : Prop := z.length ≤ 8 ∧ Letters z
def KeyS (z : Str) : Prop := (1 ≤ z.length ∧ z.length ≤ 8) ∧ Letters z
theorem KeyS.e {z : Str} (h : KeyS z) : KeyE z := ⟨h.1.2, h.2⟩
theorem Letters.app {x y : Str} (h1 : Letters x) (h2 : Letters y) : Letters (x ++ y) := fun c hc => by
  rw [sg_app] at hc
  rcases List.mem_append.mp hc with hc | hc
  · exact h1 c hc
  · exact h2 c hc
theorem Letters.cut {x : Str} {lo hi : Option Int} (h : Letters x) : Letters (cutS x lo hi) := fun c hc => h c (mem_cut hc)
theorem Letters.one {c : Nat} (h : 97 ≤ c ∧ c ≤ 122) : Letters ⟨#[c]⟩ := fun d hd => by
  have : d = c := by simpa [sg] using hd
  rw [this]; exact h
theorem flat_one : ∀ {zs : List Str}, (∀ z ∈ zs, ∃ c, z = ⟨#[c]⟩ ∧ 97 ≤ c ∧ c ≤ 122) → ((zs.map sg).flatten).length = zs.length ∧ ∀ c ∈ (zs.map sg).flatten, 97 ≤ c ∧ c ≤ 122
  | [], _ => ⟨rfl, fun c h => by cases h⟩
  | z :: zs, h => by
    obtain ⟨c, rfl, hc⟩ := h z List.mem_cons_self
    obtain ⟨h1, h2⟩ := flat_one (zs := zs) fun z hz => h z (List.mem_cons_of_mem _ hz)
    refine ⟨by rw [List.map_cons, List.flatten_cons, List.length_append, h1]; simp [sg]; omega, fun d hd => ?_⟩
    rw [List.map_cons, List.flatten_cons] at hd
    rcases List.mem_append.mp hd with hd | hd
    · have : d = c := by simpa [sg] using hd
      rw [this]; exact hc
    · exact h2 d hd
theorem sum_one : ∀ {zs : List Str}, (∀ z ∈ zs, ∃ c, z = ⟨#[c]⟩ ∧ 97 ≤ c ∧ c ≤ 122) → (zs.map (·.length)).sum = zs.length
  | [], _ => rfl
  | z :: zs, h => by
    obtain ⟨c, rfl, hc⟩ := h z List.mem_cons_self
    rw [List.map_cons, List.sum_cons, sum_one fun z hz => h z (List.mem_cons_of_mem _ hz), List.length_cons, len_one]
    omega
/-- single letters glued -/
theorem glue_letters {e : Str} {zs : List Str} (he : sg e = []) (h : ∀ z ∈ zs, ∃ c, z = ⟨#[c]⟩ ∧ 97 ≤ c ∧ c ≤ 122) : (Txt.join e zs).length = zs.length ∧ Letters (Txt.join e zs) := by
  obtain ⟨h1, h2⟩ := flat_one h
  refine ⟨by rw [← sg_len, sg_glue he]; exact h1, fun c hc => ?_⟩
  rw [sg_glue he] at hc
  exact h2 c hc
/-- a sign of a written text -/
theorem y_ixSM {K : PySem.W.Frag} {H : Hp} {Q : VK} {z : Str} {i : Int} (hz : z.length ≤ 100000) (h0 : 0 ≤ i) (h1 : i < z.length) (q : ∀ c, c ∈ sg z → (sg z)[i.toNat]? = some c → Q (.str ⟨#[c]⟩) H) : rIxU K (.str z) (.int i) H Q := by
  obtain ⟨c, hc⟩ : ∃ c, (sg z)[i.toNat]? = some c := ⟨_, List.getElem?_eq_getElem (show i.toNat < (sg z).length by rw [sg_len]; omega)⟩
  exact y_ixS (lenOk hz) (atI_of h0 hc) (q c (List.mem_of_getElem? hc) hc)
theorem ltr_of {c : Nat} (h : c ∈ sg "abcdefghijklmnopqrstuvwxyz") : 97 ≤ c ∧ c ≤ 122 := by
  have all : ∀ c ∈ sg ("abcdefghijklmnopqrstuvwxyz" : Str), 97 ≤ c ∧ c ≤ 122 := by decide +kernel
  exact all c h
/-- a key, told by a Bool -/
def keyB (z : Str) : Bool := decide (1 ≤ z.length) && decide (z.length ≤ 8) && (sg z).all fun c => decide (c ∈ sg "abcdefghijklmnopqrstuvwxyz")
/-- a comprehension over a text's signs -/
theorem y_lcStr {β : Type} {cy : Cod β} {K : PySem.W.Frag} {σ : L2.St} {e : En} {B H : Hp} {L : Led} {Q : VK} {te : TE} {tt : TT} {g : TG} {z : Str} {ns : List Nat} (f : Nat → Option β) (S : Sy e B H L) (hn : z.length ≤ 100000)
    (hs : ∀ c B1 H1 D acc (Kp : VK) (Kn : Hp → Prop), c ∈ sg z → Same B B1 → Sy e B1 H1 ((D, .lst acc) :: L) →
      (∀ y w B4 H4, f c = some w → Same B1 B4 → At cy K B4 y w → Sy e B4 H4 ((D, .lst acc) :: L) → Kp y H4) → (∀ B4 H4, f c = none → Same B1 B4 → Sy e B4 H4 ((D, .lst acc) :: L) → Kn H4) →
      g (.str ⟨#[c]⟩) (wipe σ ns) H1 fun σ2 H2 => wipe σ2 ns = wipe σ ns ∧ tt σ2 H2 fun b H3 => if b = true then te σ2 H3 Kp else Kn H3)
    (hd : ∀ D B' H', Same B B' → e.H D = none → At (.list cy) K B' (.ref D) ((sg z).filterMap f) → Sy e B' H' L → Q (.ref D) H') : LcG (Its z) g tt te ns σ Q H := by
  have hl : (sg z).length = z.cps.size := by simp [sg]
  refine y_lcRel (At cy K) at_up walk_str S (by rw [← hl, sg_len]; exact hn) (fun i => (sg z)[i]?.bind f) (fun B1 H1 D acc b1 S1 => trivial) (fun i x B1 H1 H1' acc D Kp Kn hi b1 S1 hy kp kn => ?_) (fun B1 H1 acc D b1 hD hp S1 => ?_)
  · obtain ⟨rfl, c, e2, rfl⟩ := hy
    have hc : (sg z)[i]? = some c := by rw [← e2]; simp [sg]
    exact hs c B1 _ D acc Kp Kn (List.mem_of_getElem? hc) b1 S1 (fun y w B4 H4 e1 => kp y w B4 H4 (by rw [hc]; exact e1)) (fun B4 H4 e1 => kn B4 H4 (by rw [hc]; exact e1))
  · rw [← hl, range_bind] at hp
    obtain ⟨b2, S2⟩ := S1.freeze hD
    exact hd D _ H1 (b1.trans b2) hD (.list (sqL upd_same) (pr_up at_up b2 hp)) S2
end Y
/-! Own classes: methods by their promises, fields, new instances. -/
namespace Y
open PySem PySem.Spec PyProof.Rows L2
/-- the method m of the class at C keeps the promise sp; the last ones by their defaults -/
def OkM (P : Program) (w : World) (K : PySem.W.Frag) (mg : Str → Option Value) (base : Heap) (C : Addr) (k : Nat) (m : Str) (ps : List Str) (dvs : List V) (sp : Sp) : Prop :=
  ∃ f fd ds, Meth K C m f ∧ Vals dvs ds ∧ Binds K fd ps ds ∧ FnOk P w K mg base CX0 k f fd ps sp
def OkMN (P : Program) (w : World) (K : PySem.W.Frag) (mg : Str → Option Value) (base : Heap) (C : Addr) (k : Nat) (m : Str) (ps : List Str) (n : Nat) (ks : List Str) (gV : List V → List V → List V) (sp : Sp) : Prop :=
  ∃ f fd g, Meth K C m f ∧ KBn K fd ps n ks g gV ∧ FnOk P w K mg base CX0 k f fd ps sp
/-- .. the making of an instance -/
def OkI (P : Program) (w : World) (K : PySem.W.Frag) (mg : Str → Option Value) (base : Heap) (C : Addr) (k : Nat) (x : Str) (ps : List Str) (dvs : List V) (sp : Sp) : Prop :=
  ∃ f fd ds, Mk K C f ∧ mg x = some (.ref C) ∧ Vals dvs ds ∧ Binds K fd ps ds ∧ FnOk P w K mg base CX0 k f fd ps sp
def OkIN (P : Program) (w : World) (K : PySem.W.Frag) (mg : Str → Option Value) (base : Heap) (C : Addr) (k : Nat) (x : Str) (ps : List Str) (n : Nat) (ks : List Str) (gV : List V → List V → List V) (sp : Sp) : Prop :=
  ∃ f fd g, Mk K C f ∧ mg x = some (.ref C) ∧ KBn K fd ps n ks g gV ∧ FnOk P w K mg base CX0 k f fd ps sp
/-- o.m(.., k = v, ..) -/
def tMethN (C : Addr) (m : Str) (n q : Nat) (sp : Sp) (gV : List V → List V → List V) (E : XK) (ta : TE) (t tk : TA) : TE := fun σ H Q => ta σ H fun x H1 => ∃ a dx fs, x = .ref a ∧ H1 a = some (.ins C dx fs) ∧ fs.lookup m = none ∧
  t σ H1 fun vs H2 => tk σ H2 fun zs H3 => (x :: vs).length = n ∧ zs.length = q ∧ sp (gV (x :: vs) zs) H3 Q E
section
variable {X : Cx} {k n : Nat} {C : Addr} {m x : Str} {ps ks : List Str} {sp : Sp} {apos pos p : Pos} {o e : Expr} {es : List Expr} {ta : TE} {t tk : TA} {dvs : List V} {gV : List V → List V → List V} {kws : List Keyword} {pl : Sem Bool}
theorem pe_mO0 (O : OkM X.prog X.w X.K X.mg X.base C k m ps dvs sp) (c : Cls X.K C) (hr : Room k X.A) (he : PE X o ta)
    (ht : eval (.Call (.Attribute o m apos) [] [] pos) X.env = (do
      let ov ← eval o X.env
      standAt apos.atName
      let (f, first) ← holding [ov] (getMethod ov m pl)
      callWith pos f first (backTo pos (starEach [] X.env)) (backToKw pos (keywordEach [] X.env))) := by rfl) :
    PE X (.Call (.Attribute o m apos) [] [] pos) (tMeth C m sp dvs E0 ta tNil) := by
  obtain ⟨f, fd, ds, h1, h2, h3, h4⟩ := O
  exact pe_meth0 he c h1 h4 hr h3 h2 pass0 ht
/-- C(..) -/
theorem pe_iO (O : OkI X.prog X.w X.K X.mg X.base C k x ps dvs sp) (hr : Room (k + 1) X.A) (hg : Gl X x) (ha : PA X (e :: es) t) (hdb : (x == ("__debug__" : Str)) = false := by decide) (he : starEach (e :: es) X.env = (false, eval e X.env) :: starEach es X.env := by rfl)
    (hpl : (backTo pos (starEach es X.env)).any (·.1) = false := by rfl) : PE X (.Call (.Name x p) (e :: es) [] pos) (tMake C sp dvs E0 t) := by
  obtain ⟨f, fd, ds, h1, h0, h2, h3, h4⟩ := O
  exact pe_make h1 h4 hr hg h0 h3 h2 pass0 ha hdb he hpl
theorem pe_iO0 (O : OkI X.prog X.w X.K X.mg X.base C k x ps dvs sp) (hr : Room (k + 1) X.A) (hg : Gl X x) (hdb : (x == ("__debug__" : Str)) = false := by decide) : PE X (.Call (.Name x p) [] [] pos) (tMake C sp dvs E0 tNil) := by
  obtain ⟨f, fd, ds, h1, h0, h2, h3, h4⟩ := O
  exact pe_make0 h1 h4 hr hg h0 h3 h2 pass0 hdb
end
/-! ### fields of a class that is known -/
def tFldC (C : Addr) (ta : TE) (f : Str) : TE := fun σ H Q => ta σ H fun x H1 => ∃ a dx fs v, x = .ref a ∧ H1 a = some (.ins C dx fs) ∧ fs.lookup f = some v ∧ Q v H1
def sFldC (C : Addr) (ta tv : TE) (f : Str) : TS := fun D σ H => tv σ H fun y H1 => ta σ H1 fun x H2 => ∃ a dx fs, x = .ref a ∧ H2 a = some (.ins C dx fs) ∧ fs.length < 1000 ∧ D.nx σ (upd H2 a (.ins C dx (putF f y fs)))
def sFldAugC (C : Addr) (ta tv : TE) (rd : V → V → Hp → VK → Prop) (f : Str) : TS := fun D σ H => ta σ H fun x H1 => ∃ a dx fs v, x = .ref a ∧ H1 a = some (.ins C dx fs) ∧ fs.lookup f = some v ∧
  tv σ H1 fun y H2 => rd v y H2 fun z H3 => ∃ dx' fs', H3 a = some (.ins C dx' fs') ∧ fs'.length < 1000 ∧ D.nx σ (upd H3 a (.ins C dx' (putF f z fs')))
section
variable {X : Cx} {C : Addr} {o e value : Expr} {f : Str} {pos pos' tpos : Pos} {ta tv : TE}
theorem pe_fldC (c : Cls X.K C) (n : NoAttr X.K C f) (he : PE X e ta) (hb : attributeBase e f X.env (eval e X.env) = eval e X.env := by rfl) : PE X (.Attribute e f pos) (tFldC C ta f) := by
  refine ⟨fun pins s σ H Q I h => ?_⟩
  refine attr_of hb (thn (he.run pins s σ H _ I h) fun u s1 ⟨x, H1, I1, rx, a, dx, fs, v, ex, ea, l, q⟩ => ?_)
  subst ex
  obtain rfl : u = Value.ref a := rx
  exact getattr_ok I1 ea c n l fun u' s2 I2 ru => ⟨v, H1, I2, ru, q⟩
theorem ps_fldC (c : Cls X.K C) (n : NoAttr X.K C f) (ha : PE X o ta) (hv : PE X value tv) (hs : swapsWith value (some (.Attribute o f pos')) pos.line X.env = pure false := by rfl) : PS X (.Assign [.Attribute o f pos'] value pos) (sFldC C ta tv f) := by
  refine ⟨fun pins s σ H D I h => ?_⟩
  refine plainObj_wpAny_Assign_Attribute (thn (hv.run pins s σ H _ I h) fun u s1 ⟨y, H1, I1, ry, q⟩ => thn (ha.run pins s1 σ H1 _ I1 q) fun ov s2 ⟨x, H2, I2, rx, a, dx, fs, ex, ea, l, q2⟩ => ?_) hs
  subst ex
  obtain rfl : ov = Value.ref a := rx
  exact setattr_ok I2 ea c n l ry fun s3 I3 => ⟨σ, _, I3, q2⟩
end
/-! ### the walk over these -/
section
variable {K : PySem.W.Frag} {σ : L2.St} {e : En} {B B' H : Hp} {L : Led} {Q : VK} {E : XK} {ta tv : TE} {t tk : TA} {v x y : V} {vs zs : List V} {a dx C : Addr} {f m : Str} {fs : List (Str × V)} {nx bk ct : L2.St → Hp → Prop} {rt : VK} {sp : Sp} {dvs : List V} {gV : List V → List V → List V} {φ : Ph} {n q : Nat}
def FldK (C : Addr) (f : Str) (Q : VK) : VK := fun x H1 => ∃ a dx fs v, x = .ref a ∧ H1 a = some (.ins C dx fs) ∧ fs.lookup f = some v ∧ Q v H1
theorem y_fld (h : ta σ H (FldK C f Q)) : tFldC C ta f σ H Q := h
theorem y_fldK (h : H a = some (.ins C dx fs)) (hl : fs.lookup f = some v) (q : Q v H) : FldK C f Q (.ref a) H := ⟨a, dx, fs, v, rfl, h, hl, q⟩
def SFldK (C : Addr) (f : Str) (y : V) (N : Hp → Prop) : VK := fun x H2 => ∃ a dx fs, x = .ref a ∧ H2 a = some (.ins C dx fs) ∧ fs.length < 1000 ∧ N (upd H2 a (.ins C dx (putF f y fs)))
theorem y_sfld (h : tv σ H fun y H1 => ta σ H1 (SFldK C f y (nx σ))) : sFldC C ta tv f ⟨nx, rt, bk, ct⟩ σ H := h
theorem y_sfldK {N : Hp → Prop} {fs' : List (Str × V)} (i : Nat) (S : Sy e B H L) (h : L[i]? = some (a, .ins C dx fs)) (hl : fs.length < 1000) (hp : putF f y fs = fs') (k : ∀ H', Sy e B H' (L.set i (a, .ins C dx fs')) → N H') : SFldK C f y N (.ref a) H := ⟨a, dx, fs, rfl, S.at i h, hl, by rw [hp]; exact k _ (S.wr i h _)⟩
def AFldK (C : Addr) (f : Str) (tv : TE) (rd : V → V → Hp → VK → Prop) (σ : L2.St) (N : Hp → Prop) : VK := fun x H1 => ∃ a dx fs v, x = .ref a ∧ H1 a = some (.ins C dx fs) ∧ fs.lookup f = some v ∧
  tv σ H1 fun y H2 => rd v y H2 fun z H3 => ∃ dx' fs', H3 a = some (.ins C dx' fs') ∧ fs'.length < 1000 ∧ N (upd H3 a (.ins C dx' (putF f z fs')))
theorem y_afld {rd : V → V → Hp → VK → Prop} (h : ta σ H (AFldK C f tv rd σ (nx σ))) : sFldAugC C ta tv rd f ⟨nx, rt, bk, ct⟩ σ H := h
/-- o.f += a number that is written -/
theorem y_afldI {N : Hp → Prop} {fs' : List (Str × V)} {i j : Int} (k : Nat) (S : Sy e B H L) (h : L[k]? = some (a, .ins C dx fs)) (hv : fs.lookup f = some (.int i)) (hl : fs.length < 1000) (hp : putF f (.int (i + j)) fs = fs') (q : ∀ H', Sy e B H' (L.set k (a, .ins C dx fs')) → N H') : AFldK C f (tC (.int j)) rAdd σ N (.ref a) H :=
  ⟨a, dx, fs, .int i, rfl, S.at k h, hv, i, j, rfl, rfl, dx, fs, S.at k h, hl, by rw [hp]; exact q _ (S.wr k h _)⟩
def MthK (C : Addr) (m : Str) (t : TA) (σ : L2.St) (sp : Sp) (dvs : List V) (E : XK) (Q : VK) : VK := fun x H1 => ∃ a dx fs, x = .ref a ∧ H1 a = some (.ins C dx fs) ∧ fs.lookup m = none ∧ t σ H1 fun vs H2 => sp (x :: (vs ++ dvs)) H2 Q E
theorem y_meth (h : ta σ H (MthK C m t σ sp dvs E Q)) : tMeth C m sp dvs E ta t σ H Q := h
theorem y_mthK (h : H a = some (.ins C dx fs)) (hl : fs.lookup m = none) (q : t σ H fun vs H2 => sp (.ref a :: (vs ++ dvs)) H2 Q E) : MthK C m t σ sp dvs E Q (.ref a) H := ⟨a, dx, fs, rfl, h, hl, q⟩
def MthNK (C : Addr) (m : Str) (n q : Nat) (t tk : TA) (σ : L2.St) (sp : Sp) (gV : List V → List V → List V) (E : XK) (Q : VK) : VK := fun x H1 => ∃ a dx fs, x = .ref a ∧ H1 a = some (.ins C dx fs) ∧ fs.lookup m = none ∧
  t σ H1 fun vs H2 => tk σ H2 fun zs H3 => (x :: vs).length = n ∧ zs.length = q ∧ sp (gV (x :: vs) zs) H3 Q E
theorem y_methN (h : ta σ H (MthNK C m n q t tk σ sp gV E Q)) : tMethN C m n q sp gV E ta t tk σ H Q := h
/-- the values of a call with names -/
theorem y_mthNK (h : H a = some (.ins C dx fs)) (hl : fs.lookup m = none) (k : t σ H fun vs H2 => tk σ H2 fun zs H3 => CallNK n q sp gV E Q (.ref a :: vs) zs H3) : MthNK C m n q t tk σ sp gV E Q (.ref a) H := ⟨a, dx, fs, rfl, h, hl, k⟩
/-- a new instance -/
def MakK (C : Addr) (sp : Sp) (dvs : List V) (E : XK) (Q : VK) : List V → Hp → Prop := fun vs H1 => ∀ x dx, H1 x = none → H1 dx = none → dx ≠ x → sp (.ref x :: (vs ++ dvs)) (upd (upd H1 dx (.own x)) x (.ins C dx [])) (fun v H2 => v = .non ∧ Q (.ref x) H2) E
theorem y_make (h : t σ H (MakK C sp dvs E Q)) : tMake C sp dvs E t σ H Q := h
theorem Sy.newObj {x : Addr} (S : Sy e B H L) (hx : H x = Option.none) (hd : H dx = Option.none) (hne : dx ≠ x) : ∃ B', Same B B' ∧ e.H x = Option.none ∧ Sy e B' (upd (upd H dx (.own x)) x (.ins C dx [])) ((x, .ins C dx []) :: L) := by
  obtain ⟨b1, S1⟩ := S.newI (o := .own x) hd
  obtain ⟨h2, S2⟩ := S1.newM (p := x) (o := .ins C dx []) (by rw [upd_ne (fun z => hne z.symm)]; exact hx)
  exact ⟨_, b1, h2, S2⟩
theorem y_makK (S : Sy e B H L) (h : ∀ x dx B' H', Same B B' → e.H x = none → Sy e B' H' ((x, .ins C dx []) :: L) → φ B' (.ref x :: (vs ++ dvs)) [(x, .ins C dx [])] fun B2 v L2 => ∀ H2, Sy ⟨[x], [], B', H'⟩ B2 H2 L2 → v = .non ∧ Q (.ref x) H2) : MakK C (spY φ) dvs E Q vs H := by
  intro x dx hx hd hne
  obtain ⟨B', b, he, S'⟩ := S.newObj (C := C) hx hd hne
  exact ⟨B', [(x, .ins C dx [])], S'.hand1, h x dx B' _ b he S'⟩
def MakNK (C : Addr) (sp : Sp) (gV : List V → List V → List V) (E : XK) (Q : VK) (vs zs : List V) : Hp → Prop := fun H1 => ∀ x dx, H1 x = none → H1 dx = none → dx ≠ x → sp (gV (.ref x :: vs) zs) (upd (upd H1 dx (.own x)) x (.ins C dx [])) (fun v H2 => v = .non ∧ Q (.ref x) H2) E
theorem y_makeN (h : t σ H fun vs H1 => tk σ H1 fun zs H2 => vs.length = n ∧ zs.length = q ∧ MakNK C sp gV E Q vs zs H2) : tMakeK C n q sp gV E t tk σ H Q := h
/-- a call, handed the first part of the ledger -/
theorem y_spG {R : Led} (S : Sy e B H (L ++ R)) (h : φ B vs L fun B' v L' => ∀ H', Sy ⟨L.map (·.1), [], B, H⟩ B' H' L' → Q v H') : spY φ vs H Q E := ⟨B, L, S.hand, h⟩
/-- the ledger in another order -/
theorem perm_ix {α : Type} : ∀ (L : List α), ((List.range L.length).filterMap fun i => L[i]?) = L := by
  intro L
  have := range_bind (fun x : α => some x) L
  simpa using this
theorem Sy.ix (S : Sy e B H L) (is : List Nat) {n : Nat} (hn : L.length = n) (h : is.Perm (List.range n)) : Sy e B H (is.filterMap fun i => L[i]?) := by
  subst hn
  refine S.perm ?_
  have h1 := (h.symm.filterMap fun i => L[i]?)
  rwa [perm_ix] at h1
end
/-! ### a def's body, its name told -/
section
variable {P : Program} {w : World} {K : PySem.W.Frag} {mg : Str → Option Value} {base : Heap} {x qual : Str} {st : Stmt} {kws : List (Str × V)} {N ps : List Str} {k : Nat} {φ : Ph} {f : Addr} {dvs : List V}
theorem fnM {fd : FuncData} (F : FunD K x qual (defArgs st) (defBody st) (defScope st) dvs kws f fd) (S : FnScope N ps (defScope st)) (len : ∀ B vs L k, φ B vs L k → vs.length = ps.length)
    (body : ∀ (cdv : Value) (A : Around) (outer : List Env) (s : Shared) (H : Hp) (vs : List V) (Q : VK) (E : XK) (B : Hp) (L : Led) (e : En), e.Z = [] → e.H = H → Room k (A.deeper (envOfC qual (defScope st) s.heap.objs.size f cdv)) → Sy e B H L →
      (φ B vs L fun B' v L' => ∀ H', Sy e B' H' L' → Q v H') →
      ∃ t, PSs (cxOf CX0 P w K mg base N qual (defScope st) f cdv A outer s H E).nox (defBody st) t ∧ t ⟨fun _ H' => Q .non H', Q, fun _ _ => False, fun _ _ => False⟩ (start N vs) H) : FnOk P w K mg base CX0 (k + 1) f fd ps (spY φ) := by
  refine F.ok S (fun vs H Q E h => ?_) (fun cdv A outer s H vs Q E hr h => ?_)
  · obtain ⟨B, L, _, h⟩ := h
    exact len _ _ _ _ h
  · obtain ⟨B, L, hh, h⟩ := h
    obtain ⟨t, h1, h2⟩ := body cdv A outer s H vs Q E B L _ rfl rfl hr hh.start h
    exact ⟨t, PSs.nox h1, h2⟩
variable {C : Addr} {m : Str} {sp : Sp}
/-- every parameter by place, no defaults -/
theorem OkM.of (F : ∃ fd, FunD K x qual (defArgs st) (defBody st) (defScope st) [] kws f fd) (g : Meth K C m f)
    (hb : ∀ (kV doc pm : Value) (an : Option Addr) (cdv ct : Value) (us : List Value), us.length = ps.length → bindArgs (PySem.W.fnOf x qual (defArgs st) (defBody st) (defScope st) .none kV doc pm an cdv ct) ⟨us, []⟩ = pure (ps.zip us))
    (h : ∀ fd, FunD K x qual (defArgs st) (defBody st) (defScope st) [] kws f fd → FnOk P w K mg base CX0 k f fd ps sp) : OkM P w K mg base C k m ps [] sp := by
  obtain ⟨fd, F⟩ := F
  exact ⟨f, fd, [], g, .nil, F.bindsN hb, h fd F⟩
/-- with defaults: n are written, the defaults from the j-th on fill up -/
theorem OkM.ofD (n j : Nat) (F : ∃ fd, FunD K x qual (defArgs st) (defBody st) (defScope st) dvs kws f fd) (g : Meth K C m f) (hd : dvs ≠ []) (hn : n + (dvs.length - j) = ps.length)
    (hb : ∀ (T : Addr) (kV doc pm : Value) (an : Option Addr) (cdv ct : Value) (us its : List Value), us.length = n → its.length = dvs.length →
      ∃ kk, bindArgs (PySem.W.fnOf x qual (defArgs st) (defBody st) (defScope st) (.ref T) kV doc pm an cdv ct) ⟨us, []⟩ = seqItems? (.ref T) >>= kk ∧ kk (some its.toArray) = pure (ps.zip (us ++ its.drop j)))
    (h : ∀ fd, FunD K x qual (defArgs st) (defBody st) (defScope st) dvs kws f fd → FnOk P w K mg base CX0 k f fd ps sp) : OkM P w K mg base C k m ps (dvs.drop j) sp := by
  obtain ⟨fd, F⟩ := F
  obtain ⟨ds, h1, h2⟩ := F.binds1 n j hd hn hb
  exact ⟨f, fd, ds, g, h1, h2, h fd F⟩
/-- keyword-only ones left out -/
theorem OkM.ofK (n : Nat) (F : ∃ fd, FunD K x qual (defArgs st) (defBody st) (defScope st) [] kws f fd) (g : Meth K C m f) (hk : kws ≠ []) (hn : n + kws.length = ps.length)
    (hb : ∀ (D : Addr) (doc pm : Value) (an : Option Addr) (cdv ct : Value) (us ks : List Value), us.length = n → ks.length = kws.length →
      KwChain D ((kws.map (·.1)).zip ks) (bindArgs (PySem.W.fnOf x qual (defArgs st) (defBody st) (defScope st) .none (.ref D) doc pm an cdv ct) ⟨us, []⟩) (ps.zip (us ++ ks)))
    (h : ∀ fd, FunD K x qual (defArgs st) (defBody st) (defScope st) [] kws f fd → FnOk P w K mg base CX0 k f fd ps sp) : OkM P w K mg base C k m ps (kws.map (·.2)) sp := by
  obtain ⟨fd, F⟩ := F
  obtain ⟨ds, h1, h2⟩ := F.binds0 n hk hn hb
  exact ⟨f, fd, ds, g, h1, h2, h fd F⟩
/-- n by place, ks by name, no defaults needed -/
theorem OkMN.of {n : Nat} {ks : List Str} (gA : {α : Type} → List α → List α → List α) (F : ∃ fd, FunD K x qual (defArgs st) (defBody st) (defScope st) [] kws f fd) (g : Meth K C m f)
    (rel : ∀ {vs zs : List V} {us ws : List Value}, Vals vs us → Vals zs ws → Vals (gA vs zs) (gA us ws))
    (hb : ∀ (kV doc pm : Value) (an : Option Addr) (cdv ct : Value) (us ws : List Value), us.length = n → ws.length = ks.length → bindArgs (PySem.W.fnOf x qual (defArgs st) (defBody st) (defScope st) .none kV doc pm an cdv ct) ⟨us, ks.zip ws⟩ = pure (ps.zip (gA us ws)))
    (h : ∀ fd, FunD K x qual (defArgs st) (defBody st) (defScope st) [] kws f fd → FnOk P w K mg base CX0 k f fd ps sp) : OkMN P w K mg base C k m ps n ks (fun vs zs => gA vs zs) sp := by
  obtain ⟨fd, F⟩ := F
  refine ⟨f, fd, fun us ws => gA us ws, g, ⟨fun s us ws _ h1 h2 => ?_, rel⟩, h fd F⟩
  obtain ⟨oc, od, dV, kV, doc, pm, an, cdv, ct, osl, rfl, lk, hcd, hD, hK⟩ := F.ex
  rcases hD with ⟨_, rfl⟩ | ⟨e, _⟩
  · exact .of_eq (hb kV doc pm an cdv ct us ws h1 h2)
  · exact absurd rfl e
/-- .. with defaults -/
theorem OkMN.ofD {n : Nat} {ks : List Str} (gA : {α : Type} → List α → List α → List α → List α) (F : ∃ fd, FunD K x qual (defArgs st) (defBody st) (defScope st) dvs kws f fd) (g : Meth K C m f) (hd : dvs ≠ [])
    (rel : ∀ {vs zs ds : List V} {us ws is : List Value}, Vals vs us → Vals zs ws → Vals ds is → Vals (gA vs zs ds) (gA us ws is))
    (hb : ∀ (T : Addr) (kV doc pm : Value) (an : Option Addr) (cdv ct : Value) (us ws its : List Value), us.length = n → ws.length = ks.length → its.length = dvs.length →
      ∃ kk, bindArgs (PySem.W.fnOf x qual (defArgs st) (defBody st) (defScope st) (.ref T) kV doc pm an cdv ct) ⟨us, ks.zip ws⟩ = seqItems? (.ref T) >>= kk ∧ kk (some its.toArray) = pure (ps.zip (gA us ws its)))
    (h : ∀ fd, FunD K x qual (defArgs st) (defBody st) (defScope st) dvs kws f fd → FnOk P w K mg base CX0 k f fd ps sp) : OkMN P w K mg base C k m ps n ks (fun vs zs => gA vs zs dvs) sp := by
  obtain ⟨fd, F⟩ := F
  have hf := h fd F
  obtain ⟨oc, od, dV, kV, doc, pm, an, cdv, ct, osl, rfl, lk, hcd, hD, hK⟩ := F.ex
  rcases hD with ⟨e, _⟩ | ⟨_, T, o, its, m, rfl, lT, oT, rT⟩
  · exact absurd e hd
  · refine ⟨f, _, fun us ws => gA us ws its, g, ⟨fun s us ws X h1 h2 => ?_, fun r1 r2 => rel r1 r2 rT⟩, hf⟩
    obtain ⟨kk, e1, e2⟩ := hb T kV doc pm an cdv ct us ws its h1 h2 rT.length.symm
    refine BindsTo.of_looks fun M => ?_
    rw [e1]
    exact looks_items X lT oT (.of_pure e2)
/-- the making: from the same facts of __init__ as a method -/
theorem OkM.mk (O : OkM P w K mg base C k "__init__" ps dvs sp) (M : Mk K C f) (g : mg x = some (.ref C)) : OkI P w K mg base C k x ps dvs sp := by
  obtain ⟨f', fd, ds, h1, h2, h3, h4⟩ := O
  have e : f' = f := by
    have := h1.at_.symm.trans M.init
    cases this
    rfl
  subst e
  exact ⟨f', fd, ds, M, g, h2, h3, h4⟩
theorem OkMN.mk {n : Nat} {ks : List Str} {gV : List V → List V → List V} (O : OkMN P w K mg base C k "__init__" ps n ks gV sp) (M : Mk K C f) (g : mg x = some (.ref C)) : OkIN P w K mg base C k x ps n ks gV sp := by
  obtain ⟨f', fd, gg, h1, h2, h3⟩ := O
  have e : f' = f := by
    have := h1.at_.symm.trans M.init
    cases this
    rfl
  subst e
  exact ⟨f', fd, gg, M, g, h2, h3⟩
end
/-! ### len(o) by an own __len__ -/
section
variable {X : Cx} {n : Nat} {C : Addr} {ps : List Str} {sp : Sp}
end
/-! ### dicts with written text keys -/
section
variable {K : PySem.W.Frag} {σ : L2.St} {e : En} {B B' H : Hp} {L : Led} {Q : VK} {trs : List (TE × TE)} {tk tv : TE} {v x y : V} {a d : Addr} {z : Str} {kvs kvs' : List (Key × V)}
theorem y_ixDS (h : H a = some (.dK kvs)) (hv : valV kvs (.inr z) = some v) (q : Q v H) : rIxU K (.ref a) (.str z) H Q := y_ixD (k := .inr z) (.inl h) rfl hv q
theorem y_setDS {N : Hp → Prop} (n : Nat) (S : Sy e B H L) (h : L[n]? = some (d, .dK kvs)) (hl : kvs.length < 100000) (hp : putK kvs (.inr z) v = kvs') (k : ∀ H', Sy e B H' (L.set n (d, .dK kvs')) → N H') : rSetU (.ref d) (.str z) v H N := y_setD n S h (kk := .inr z) rfl (lenLt hl) fun H' S' => k H' (by rw [← hp]; exact S')
def DispK (p : Addr) (Q : VK) : List (V × V) → Hp → Prop := fun ps H2 => H2 p = some (.dK []) ∧ ∃ kvs : List (Key × V), ps = kvs.map (fun kv => (kV kv.1, kv.2)) ∧ kvs.length ≤ 15 ∧ Q (.ref p) (upd H2 p (.dK (mergeK [] kvs)))
theorem y_disp (S : Sy e B H L) (h : ∀ p H1, e.H p = none → Sy e B H1 ((p, .dK []) :: L) → tPairs trs σ H1 (DispK p Q)) : tDisp trs σ H Q := fun p hp => by
  obtain ⟨h1, S1⟩ := S.newM (o := .dK []) hp
  exact h p _ h1 S1
theorem y_pcons {r : List (TE × TE)} {QP : List (V × V) → Hp → Prop} (h : tk σ H fun x H1 => tv σ H1 fun y H2 => tPairs r σ H2 fun ps H3 => QP ((x, y) :: ps) H3) : tPairs ((tk, tv) :: r) σ H QP := h
theorem y_pnil {QP : List (V × V) → Hp → Prop} (h : QP [] H) : tPairs [] σ H QP := h
theorem y_dispK {p : Addr} {ps : List (V × V)} (kvs : List (Key × V)) (n : Nat) (S : Sy e B H L) (h : L[n]? = some (p, .dK [])) (hk : ps = kvs.map fun kv => (kV kv.1, kv.2)) (hl : kvs.length ≤ 15) (hm : mergeK [] kvs = kvs') (k : ∀ H', Sy e B H' (L.set n (p, .dK kvs')) → Q (.ref p) H') : DispK p Q ps H := ⟨S.at n h, kvs, hk, hl, by rw [hm]; exact k _ (S.wr n h _)⟩
end
/-! ### tuples walked -/
section
variable {K : PySem.W.Frag} {σ : L2.St} {e : En} {B B' H : Hp} {L : Led} {te : TE} {xs : List V} {a : Addr} {R : It → Hp → Prop}
def TupK (K : PySem.W.Frag) (R : It → Hp → Prop) : VK := fun x H1 => ∃ a, x = .ref a ∧ (∃ xs, SqT K H1 a xs) ∧ R (Itt K a) H1
theorem y_itup (h : te σ H (TupK K R)) : iTup K te σ H R := h
theorem y_tupK (h : SqT K H a xs) (q : R (Itt K a) H) : TupK K R (.ref a) H := ⟨a, rfl, ⟨xs, h⟩, q⟩
end
end Y
/-! sorted(..) of data by their types. -/
namespace Y
open PySem PySem.Spec PyProof.Rows L2
/-- x goes no later than y -/
def leD (d e : PyData) : Bool := !PySem.W.dataLt e d
section
variable {X : Cx} {K : PySem.W.Frag}
/-- sorted(xs): zs what the items stand for -/
def rSortC (K : PySem.W.Frag) : List V → Hp → VK → Prop := fun vs H Q => ∃ (α : Type) (enc : α → PyData) (a : Addr) (xs : List V) (zs : List α), vs = [.ref a] ∧ SqL K H a xs ∧ DpAll K H xs (zs.map enc) ∧ PySem.W.AllAlike (zs.map enc) ∧ PySem.W.Sortable (zs.map enc) ∧ (∀ z ∈ zs, (enc z).depth ≤ 50) ∧
  NewK (.lst (((xs.zip zs).mergeSort fun p q => leD (enc p.2) (enc q.2)).map (·.1))) Q H
theorem each_zip {H : Hp} {α : Type} {enc : α → PyData} : ∀ {xs : List V} {its : List Value} {zs : List α}, Vals xs its → DpAll K H xs (zs.map enc) → PySem.W.EachIs (fun (v : Value) (b : V × α) => RelV b.1 v ∧ Dp K H b.1 (enc b.2)) its (xs.zip zs)
  | _, _, [], .nil, _ => .nil
  | _, _, [], .cons _ _, h => by cases h
  | _, _, _ :: _, .nil, h => by cases h
  | _, _, z :: zs, .cons r t, h => by
    cases h with
    | cons h1 h2 => exact .cons ⟨r, h1⟩ (each_zip t h2)
theorem vals_each {H : Hp} {α : Type} {enc : α → PyData} : ∀ {out : List Value} {bs : List (V × α)}, PySem.W.EachIs (fun (v : Value) (b : V × α) => RelV b.1 v ∧ Dp K H b.1 (enc b.2)) out bs → Vals (bs.map (·.1)) out
  | _, _, .nil => .nil
  | _, _, .cons r t => .cons r.1 (vals_each t)
theorem zip_snd {α : Type} {enc : α → PyData} {H : Hp} : ∀ {xs : List V} {zs : List α}, DpAll K H xs (zs.map enc) → (xs.zip zs).map (fun b => enc b.2) = zs.map enc ∧ xs.length = zs.length
  | _, [], h => by cases h; exact ⟨rfl, rfl⟩
  | _, z :: zs, h => by
    cases h with
    | cons h1 h2 =>
      obtain ⟨e1, e2⟩ := zip_snd h2
      exact ⟨by rw [List.zip_cons_cons, List.map_cons, e1]; rfl, by rw [List.length_cons, List.length_cons, e2]⟩
theorem cr_sortC (hK : X.K = K) (hu : X.A.units + 64 < cLine) : CallR X (.builtin "sorted") (rSortC K) := by
  subst hK
  intro pins s σ H vs us Q I r h
  obtain ⟨α, enc, a, xs, zs, rfl, hs, hd, hal, hk, hdp, q⟩ := h
  obtain ⟨its, rv, hl, hz⟩ := I.list hs
  obtain ⟨u, rfl, ru⟩ := vals1 r
  obtain rfl : u = Value.ref a := ru
  obtain ⟨e1, e2⟩ := zip_snd hd
  have ez := each_zip rv hd
  have hzl : (xs.zip zs).length = zs.length := by rw [List.length_zip, e2, Nat.min_self]
  refine PySem.W.sorted_data (enc := fun b : V × α => enc b.2) hl.isList ez (ez.mono fun v b hb => Dp.reads I _ b.1 v hb.2 hb.1) (by rw [e1]; exact hal) (by rw [e1]; exact hk) (by rw [hzl, ← e2]; exact hz) (fun b hb => ?_) fun out hlen ho => ?_
  · have hm : b.2 ∈ zs := (List.of_mem_zip (show (b.1, b.2) ∈ xs.zip zs from hb)).2
    have := hdp _ hm
    show X.A.units + 2 + (enc b.2).depth < cLine
    omega
  · obtain ⟨n, hn⟩ := sortedAll_at s.heap its out.toArray
    have hv := vals_each ho
    have hle : (PySem.W.dataLe false fun b : V × α => enc b.2) = fun p q => leD (enc p.2) (enc q.2) := rfl
    rw [hle] at hv
    refine ⟨.ref _, upd H (s.heap.objs.size + 1) (.lst _), I.laid (t' := s.toks) (fun _ _ => sortedAll_old) (Nat.le_succ _) ⟨?_, out, n, hv, hn⟩, rfl, q _ (I.hok.fresh (Nat.le_succ _))⟩
    rw [List.length_map, List.length_mergeSort, hzl, ← e2]
    exact hz
end
/-! ### seen from the walk -/
section
variable {K : PySem.W.Frag} {e : En} {B H : Hp} {L : Led} {Q : VK} {α : Type} {a : Addr} {xs : List V} {zs : List α}
theorem pr_zip {F : V → α → Prop} : ∀ {xs : List V} {zs : List α}, Paired F xs zs → ∀ b ∈ xs.zip zs, F b.1 b.2
  | _, _, .nil, b, h => by cases h
  | _, _, .cons r t, b, h => by
    rcases List.mem_cons.mp h with rfl | h
    · exact r
    · exact pr_zip t b h
theorem pr_maps {F : V → α → Prop} : ∀ {bs : List (V × α)}, (∀ b ∈ bs, F b.1 b.2) → Paired F (bs.map (·.1)) (bs.map (·.2))
  | [], _ => .nil
  | b :: bs, h => .cons (h b List.mem_cons_self) (pr_maps fun x hx => h x (List.mem_cons_of_mem _ hx))
theorem pr_sort {F : V → α → Prop} {le : α → α → Bool} (h : Paired F xs zs) : Paired F (((xs.zip zs).mergeSort fun p q => le p.2 q.2).map (·.1)) (zs.mergeSort le) := by
  have h1 := pr_maps (F := F) (bs := (xs.zip zs).mergeSort fun p q => le p.2 q.2) fun b hb => pr_zip h b ((List.mergeSort_perm _ _).mem_iff.mp hb)
  have e1 : ((xs.zip zs).mergeSort fun p q => le p.2 q.2).map (·.2) = zs.mergeSort le := by
    rw [List.map_mergeSort (s := le) (fun _ _ _ _ => rfl), List.map_snd_zip (Nat.le_of_eq h.length.symm)]
  rw [e1] at h1
  exact h1
/-- sorted(xs) of a type whose values are alike -/
theorem y_sortC (c : Cod α) (S : Sy e B H L) (h : SqL K H a xs) (hp : Paired (At c K B) xs zs) (hal : ∀ z ∈ zs, ∀ w ∈ zs, PySem.W.alike (c.enc z) (c.enc w) = true) (hk : PySem.W.Sortable (zs.map c.enc)) (hd : c.dep ≤ 50)
    (q : ∀ ys, Paired (At c K B) ys (zs.mergeSort fun z w => leD (c.enc z) (c.enc w)) → NewK (.lst ys) Q H) : rSortC K [.ref a] H Q := by
  refine ⟨α, c.enc, a, xs, zs, rfl, h, Sub.ds S.bh (dpAll_of hp), fun d hd d' hd' => ?_, hk, fun z _ => Nat.le_trans (c.dp z) hd, q _ (pr_sort (le := fun z w => leD (c.enc z) (c.enc w)) hp)⟩
  obtain ⟨z, hz, rfl⟩ := List.mem_map.mp hd
  obtain ⟨w, hw, rfl⟩ := List.mem_map.mp hd'
  exact hal z hz w hw
end
/-! ### sorted(..) of what is no list -/
section
variable {X : Cx} {α : Type} {enc : α → PyData} {T : String} {r d : Addr} {n : Nat} {P : Nat → Value → Prop} {OK : Heap → Prop}
theorem sorted_src (src : PySem.W.KdlSrc X.prog X.w T r d n P OK) (hc : X.calm = true) (hu : X.A.units + 64 < cLine) {pins : List (Addr × Obj)} {s : Shared} {σ : L2.St} {H : Hp} {Q : VK} (I : Inv X pins σ H s) (ok : OK s.heap) (hn : n ≤ sizeLine) {Good : List (V × α) → Prop}
    (ha : ∀ acc : Array Value, acc.size = n → (∀ j v, acc[j]? = some v → P j v) → ∃ bs : List (V × α), PySem.W.EachIs (fun (v : Value) (b : V × α) => RelV b.1 v ∧ Dp X.K H b.1 (enc b.2)) acc.toList bs ∧ Good bs)
    (hal : ∀ bs, Good bs → PySem.W.AllAlike (bs.map fun b => enc b.2)) (hk : ∀ bs, Good bs → PySem.W.Sortable (bs.map fun b => enc b.2)) (hdp : ∀ bs, Good bs → ∀ b ∈ bs, (enc b.2).depth ≤ 50)
    (q : ∀ bs, Good bs → NewK (.lst ((bs.mergeSort fun p q => leD (enc p.2) (enc q.2)).map (·.1))) Q H) : wpAny (model X.prog X.w) X.A (call (.builtin "sorted") [.ref r]) (EP X pins σ Q) X.xe s := by
  refine Calls.call_function_entry kind_sorted plain_sorted entry_sorted (args_sorted1 _) ?_
  unfold Builtin.«sorted»
  refine wpAny_bind (m := checkCount "sorted" 1 1 _) (wpAny_pure ?_)
  refine wpAny_bind (PySem.W.kdu_collect (A := X.A.in1) src (I.ok.hd hc) ok hn fun hp tk acc kp hit => ?_)
  obtain ⟨bs, eb, gd⟩ := ha acc hit.1 hit.2
  have hal1 : acc.toList.length ≤ sizeLine := by rw [Array.length_toList, hit.1]; exact hn
  have I1 : Inv X pins σ H { s with heap := hp, toks := tk } := I.kept kp
  refine wpAny_bind (wpAny_newList ?_ hal1)
  have hoL : (hp.push (seqObj "list" acc.toList.toArray 0)).get? hp.objs.size = some (seqObj "list" acc.toList.toArray 0) := Heap.get?_push_size _ rfl
  show wpAny _ _ _ _ _ { s with heap := hp.push (seqObj "list" acc.toList.toArray 0), toks := tk }
  have up : ∀ (b : Addr) (o : Obj), hp.get? b = some o → (PySem.W.sortingHeap (hp.push (seqObj "list" acc.toList.toArray 0)) hp.objs.size acc.toList).get? b = some o := fun b o e =>
    PySem.W.sortingHeap_old (Nat.ne_of_lt (Heap.lt_size e)) (Heap.get?_push_of_some _ e)
  have er : PySem.W.EachIs (fun (v : Value) (b : V × α) => ∃ as, Reads (PySem.W.sortingHeap (hp.push (seqObj "list" acc.toList.toArray 0)) hp.objs.size acc.toList) v (enc b.2) as) acc.toList bs := eb.mono fun v b hb => by
    obtain ⟨as, h1⟩ := Dp.reads I1 _ b.1 v hb.2 hb.1
    exact ⟨as, PyProof.Rows.Reads.keeps up h1⟩
  refine wpAny_bind (wpAny_holding (wpAny_call_entry slot_list_sort ⟨_, hoL, rfl⟩ entry_list_sort
    (PySem.W.list_sort_vals (s := { s with heap := hp.push (seqObj "list" acc.toList.toArray 0), toks := tk }) hoL
      (PySem.W.SortsAt.data (s := { s with heap := PySem.W.sortingHeap (hp.push (seqObj "list" acc.toList.toArray 0)) hp.objs.size acc.toList, toks := tk }) (PySem.W.each_map (R := fun v d => ∃ as, Reads (PySem.W.sortingHeap (hp.push (seqObj "list" acc.toList.toArray 0)) hp.objs.size acc.toList) v d as) (fun b : V × α => enc b.2) er) (hal bs gd) (hk bs gd) (fun d hd => ?_)) hal1 ⟨_, rfl, ?_⟩) (args_list_sort _)))
  · obtain ⟨b, hb, rfl⟩ := List.mem_map.mp hd
    have := hdp bs gd b hb
    show X.A.units + 1 + 1 + (enc b.2).depth < cLine
    omega
  · have ho := PySem.W.sortVals_data false eb er (hal bs gd)
    have hv := vals_each ho
    obtain ⟨e', he'⟩ := sortedHeap_at (vs := acc.toList) (out := (PySem.W.sortVals (PySem.W.dataKind (PySem.W.sortingHeap (hp.push (seqObj "list" acc.toList.toArray 0)) hp.objs.size acc.toList) (bs.map fun b => enc b.2)) false acc.toList acc.toList).toArray) hoL
    refine wpAny_pure ⟨_, rfl, .ref hp.objs.size, upd H hp.objs.size (.lst ((bs.mergeSort fun p q => leD (enc p.2) (enc q.2)).map (·.1))), I1.laid (t' := tk) (fun b u e => ?_) (Nat.le_refl _) (show ObjOk X.prog X.w _ _ _ (.lst _) from ⟨?_, _, e', hv, he'⟩), rfl, q bs gd _ (I1.hok.fresh (Nat.le_refl _))⟩
    · have hb : b < hp.objs.size := Heap.lt_size e
      rw [sortedHeap_old (Nat.ne_of_lt hb) (by rw [size_push']; exact Nat.lt_succ_of_lt hb)]
      exact Heap.get?_push_of_some _ e
    · rw [List.length_map, List.length_mergeSort, ← eb.length]
      exact hal1
end
/-! ### sorted(d), by its keys -/
def keyD : Key → PyData
  | .inl i => .int i
  | .inr z => .str z
theorem dp_key {K : PySem.W.Frag} {H : Hp} (k : Key) : Dp K H (kV k) (keyD k) := by cases k with | inl i => exact .int i | inr z => exact .str z
theorem keyD_dep (k : Key) : (keyD k).depth ≤ 50 := by cases k <;> simp [keyD, PyData.depth]
section
variable {X : Cx}
def rSortDK : List V → Hp → VK → Prop := fun vs H Q => ∃ (d : Addr) (kvs : List (Key × V)), vs = [.ref d] ∧ Rd H d (.dK kvs) ∧ PySem.W.AllAlike (kvs.map fun p => keyD p.1) ∧ NewK (.lst (((kvs.map (·.1)).mergeSort fun k l => leD (keyD k) (keyD l)).map kV)) Q H
theorem sortable_keys {l : List Key} : PySem.W.Sortable (l.map keyD) := .inr fun d hd => by
  obtain ⟨k, _, rfl⟩ := List.mem_map.mp hd
  cases k with
  | inl i => exact ⟨(fun z => by cases z), (fun _ z => by cases z)⟩
  | inr i => exact ⟨(fun z => by cases z), (fun _ z => by cases z)⟩
theorem cr_sortDK (hc : X.calm = true) (hu : X.A.units + 64 < cLine) : CallR X (.builtin "sorted") rSortDK := by
  intro pins s σ H vs us Q I r h
  obtain ⟨d, kvs, rfl, hd, hal, q⟩ := h
  obtain ⟨u, rfl, ru⟩ := vals1 r
  obtain rfl : u = Value.ref d := ru
  obtain ⟨z, lo, ws, rel, dd⟩ := dk_rd I.hok hd
  obtain ⟨ep, hat⟩ := dd.dictAt
  have hl : kvs.length = ws.length := Paired.length rel
  refine sorted_src (enc := keyD) (Good := fun bs => bs = kvs.map fun p => (kV p.1, p.1)) (PySem.W.kdl_dict (knd := mixKind X.prog X.w) (kvs := ws) (ep := ep) lo) hc hu I hat (by rw [← hl]; exact z) (fun acc h1 h2 => ⟨_, ?_, rfl⟩) (fun bs e => ?_) (fun bs e => ?_) (fun bs e b _ => keyD_dep _) (fun bs e => ?_)
  · have key : ∀ {l : List (Key × V)} {m : List Value}, l.length = m.length → (∀ (j : Nat) (p : Key × V) (v : Value), l[j]? = some p → m[j]? = some v → RelV (kV p.1) v) → PySem.W.EachIs (fun (v : Value) (b : V × Key) => RelV b.1 v ∧ Dp X.K H b.1 (keyD b.2)) m (l.map fun p => (kV p.1, p.1)) := by
      intro l
      induction l with
      | nil => intro m e _; cases m with | nil => exact .nil | cons _ _ => cases e
      | cons p l ih =>
        intro m e f
        cases m with
        | nil => cases e
        | cons v m => exact .cons ⟨f 0 p v rfl rfl, dp_key _⟩ (ih (by simpa using e) fun j a b ha hb => f (j + 1) a b (by simpa using ha) (by simpa using hb))
    refine key (l := kvs) (m := acc.toList) (by have e9 : acc.toList.length = acc.size := Array.length_toList; omega) fun j p v hp hv => ?_
    obtain ⟨k, y, hky, hi⟩ := h2 j v (by rw [← Array.getElem?_toList]; exact hv)
    have e1 : (kvs.map (·.1))[j]? = some k := by
      rw [KV.keys rel, List.getElem?_map, hky] <;> rfl
    rw [List.getElem?_map, hp] at e1
    cases e1
    exact keyIs_rel hi
  · subst e
    rw [List.map_map]
    exact hal
  · subst e
    rw [List.map_map]
    have := sortable_keys (l := kvs.map (·.1))
    rwa [List.map_map] at this
  · subst e
    have e2 : ((kvs.map fun p => (kV p.1, p.1)).mergeSort fun p q => leD (keyD p.2) (keyD q.2)).map (·.1) = ((kvs.map (·.1)).mergeSort fun k l => leD (keyD k) (keyD l)).map kV := by
      have e3 : (kvs.map fun p => (kV p.1, p.1)) = (kvs.map (·.1)).map fun k => (kV k, k) := by rw [List.map_map]; rfl
      rw [e3, ← List.map_mergeSort (r := fun k l => leD (keyD k) (keyD l)) (f := fun k => (kV k, k)) (fun _ _ _ _ => rfl), List.map_map]
      rfl
    rw [e2]
    exact q
/-- sorted(d), its keys pairs of ints -/
def rSortDT : List V → Hp → VK → Prop := fun vs H Q => ∃ (d : Addr) (kvs : List (List Key × V)) (ps : List (Int × Int)), vs = [.ref d] ∧ Rd H d (.dT kvs) ∧ kvs.map (·.1) = ps.map (fun p => [.inl p.1, .inl p.2]) ∧
  ∀ bs : List (V × (Int × Int)), bs.map (·.2) = ps → (∀ b ∈ bs, ∃ t, b.1 = .ref t ∧ H t = some (.tup [.int b.2.1, .int b.2.2])) → NewK (.lst ((bs.mergeSort fun p q => leD (.tuple [.int p.2.1, .int p.2.2]) (.tuple [.int q.2.1, .int q.2.2])).map (·.1))) Q H
theorem alike_pair (a b c d : Int) : PySem.W.alike (.tuple [.int a, .int b]) (.tuple [.int c, .int d]) = true := by simp [PySem.W.alike, PySem.W.alikeAll]
theorem cr_sortDT (hc : X.calm = true) (hu : X.A.units + 64 < cLine) : CallR X (.builtin "sorted") rSortDT := by
  intro pins s σ H vs us Q I r h
  obtain ⟨d, kvs, ps, rfl, hd, hps, q⟩ := h
  obtain ⟨u, rfl, ru⟩ := vals1 r
  obtain rfl : u = Value.ref d := ru
  obtain ⟨z, hs, ks, pr, o, es, ep, ho, hx, hdt, he, hn⟩ := (show ObjOk X.prog X.w H s.heap d (.dT kvs) from hd.ok I.hok)
  have l1 : es.size = ks.length := size_of_entries he
  have l2 : kvs.length = ks.length := Paired.length pr
  have l3 : kvs.length = ps.length := by have := congrArg List.length hps; rwa [List.length_map, List.length_map] at this
  refine sorted_src (enc := fun p : Int × Int => .tuple [.int p.1, .int p.2]) (Good := fun bs => bs.map (·.2) = ps ∧ ∀ b ∈ bs, ∃ t, b.1 = V.ref t ∧ H t = some (.tup [.int b.2.1, .int b.2.2])) (kdl_raw hs hx hdt) hc hu I ho (by omega) (fun acc h1 h2 => ?_) (fun bs g => ?_) (fun bs g => ?_) (fun bs g b _ => by simp [PyData.depth, PyData.depthAll]) (fun bs g => q bs g.1 g.2)
  · have key : ∀ {l : List (List Key × V)} {m : List (List Key × Addr × Value)} {ps : List (Int × Int)} {vs : List Value}, Paired (fun (p : List Key × V) (q : List Key × Addr × Value) => p.1 = q.1 ∧ H q.2.1 = some (.tup (p.1.map kV)) ∧ RelV p.2 q.2.2) l m → l.map (·.1) = ps.map (fun p => [.inl p.1, .inl p.2]) → vs = m.map (fun x => Value.ref x.2.1) →
        ∃ bs : List (V × (Int × Int)), PySem.W.EachIs (fun (v : Value) (b : V × (Int × Int)) => RelV b.1 v ∧ Dp X.K H b.1 (.tuple [.int b.2.1, .int b.2.2])) vs bs ∧ bs.map (·.2) = ps ∧ ∀ b ∈ bs, ∃ t, b.1 = V.ref t ∧ H t = some (.tup [.int b.2.1, .int b.2.2]) := by
      intro l m ps vs hp
      induction hp generalizing ps vs with
      | nil =>
        intro e1 e2
        cases ps with
        | nil => exact ⟨[], by rw [e2]; exact .nil, rfl, fun b hb => by cases hb⟩
        | cons _ _ => cases e1
      | @cons a b l m h1 _ ih =>
        intro e1 e2
        cases ps with
        | nil => cases e1
        | cons p ps =>
          rw [List.map_cons, List.map_cons] at e1
          obtain ⟨ea, er⟩ := List.cons.inj e1
          obtain ⟨bs, g1, g2, g3⟩ := ih er rfl
          have ht : H b.2.1 = some (.tup [.int p.1, .int p.2]) := by
            have := h1.2.1
            rw [ea] at this
            exact this
          refine ⟨(.ref b.2.1, p) :: bs, ?_, by rw [List.map_cons, g2], fun c hc => ?_⟩
          · rw [e2, List.map_cons]
            exact .cons ⟨rfl, .tup (sqT ht) (.cons (.int _) (.cons (.int _) .nil))⟩ g1
          · rcases List.mem_cons.mp hc with rfl | hc
            · exact ⟨_, rfl, ht⟩
            · exact g3 c hc
    refine key pr hps ?_
    apply List.ext_getElem?
    intro j
    rw [List.getElem?_map]
    cases hj : acc.toList[j]? with
    | none =>
      have h3 := List.getElem?_eq_none_iff.mp hj
      rw [Array.length_toList] at h3
      rw [List.getElem?_eq_none (by omega)]
      rfl
    | some v =>
      obtain ⟨en, hen, hv⟩ := h2 j v (by rw [← Array.getElem?_toList]; exact hj)
      have qe := entry_at he j
      rw [hen] at qe
      cases hb : ks[j]? with
      | none =>
        rw [hb] at qe
        exact nomatch (show some en = none from qe)
      | some b =>
        rw [hb] at qe
        have e2 : en = entryOfKey (tupleKind (mixKind X.prog X.w)) b := Option.some.inj qe
        rw [hv, e2]
        rfl
  · intro d hd d' hd'
    obtain ⟨x, _, rfl⟩ := List.mem_map.mp hd
    obtain ⟨y, _, rfl⟩ := List.mem_map.mp hd'
    exact alike_pair _ _ _ _
  · exact .inl fun d hd => by
      obtain ⟨x, _, rfl⟩ := List.mem_map.mp hd
      exact ⟨_, _, rfl⟩
end
end Y
/-! Own exceptions (over ValueError) as values: made, asked for their class, their fields read. -/
namespace Y
open PySem PySem.Spec PyProof.Rows L2
/-- at a: an exception of the class at C with these fields -/
def Ex (H : Hp) (a C : Addr) (fs : List (Str × V)) : Prop := (H a = some (exo a C none) ∧ fs = []) ∨ ∃ dx, H a = some (exo a C (some dx)) ∧ H dx = some (exd dx fs)
theorem Sub.ex {B H : Hp} {a C : Addr} {fs : List (Str × V)} (h : Sub B H) (r : Ex B a C fs) : Ex H a C fs := by
  rcases r with ⟨r, e⟩ | ⟨dx, r, e⟩
  · rcases h a _ r with q | ⟨m, _⟩
    · exact .inl ⟨q, e⟩
    · exact m.elim
  · rcases h a _ r with q | ⟨m, _⟩
    · rcases h dx _ e with q2 | ⟨m, _⟩
      · exact .inr ⟨dx, q, q2⟩
      · exact m.elim
    · exact m.elim
theorem Same.ex {B B' : Hp} {a C : Addr} {fs : List (Str × V)} (h : Same B B') (r : Ex B a C fs) : Ex B' a C fs := by
  rcases r with ⟨r, e⟩ | ⟨dx, r, e⟩
  · exact .inl ⟨h _ _ r, e⟩
  · exact .inr ⟨dx, h _ _ r, h _ _ e⟩
/-- the instance as the model has it -/
theorem Ex.inst {P : Program} {w : World} {H : Hp} {h : Heap} {a C : Addr} {fs : List (Str × V)} (x : Ex H a C fs) (hok : HOk P w H h) : ∃ ox od, PySem.W.InstAt h a ox C od := by
  rcases x with ⟨r, e⟩ | ⟨dx, r, e⟩
  · obtain ⟨t1, ho⟩ := exo_at hok r
    exact ⟨_, none, ho, rfl, rfl, trivial⟩
  · obtain ⟨t1, ho⟩ := exo_at hok r
    obtain ⟨mA, hns, rel⟩ := exd_at hok e
    obtain ⟨od, hd, hl⟩ := lookIn_ns hns
    exact ⟨_, some od, ho, rfl, rfl, hd⟩
/-! ### isinstance -/
def rIsX (K : PySem.W.Frag) : List V → Hp → VK → Prop := fun xs H Q => ∃ (a C : Addr) (fs : List (Str × V)) (c : V) (cv : Value) (b : Bool), xs = [.ref a, c] ∧ Ex H a C fs ∧ ExcC K C ∧ (∀ u, RelV c u → u = cv) ∧ PySem.W.kitOne K (.ref C) cv = some b ∧ Q (.bl b) H
theorem call_isX {X : Cx} {K : PySem.W.Frag} (hK : X.K = K) : CallR X (.builtin "isinstance") (rIsX K) := by
  subst hK
  intro pins s σ H xs us Q I r h
  obtain ⟨a, C, fs, c, cv, b, rfl, hx, T, hcv, e, q⟩ := h
  cases r with
  | cons rx rr =>
    cases rr with
    | cons rt rr =>
      cases rr
      cases rx
      have ec := hcv _ rt
      subst ec
      obtain ⟨ox, od, J⟩ := hx.inst I.hok
      have hcl : (PySem.W.clsIn X.K C).isSome = true := by
        obtain ⟨cd, hc, _⟩ := PySem.W.any_some T.hd
        rw [hc]; rfl
      exact PySem.W.kia_one (PySem.W.kitx_exc hcl T.hg T.hk T.hs T.ha T.hn T.ht T.hm) I.kIn J e (fun z => nomatch z) fun tk => ⟨.bl b, H, I.kept (t' := tk) fun _ _ z => z, rfl, q⟩
/-! ### fields -/
def tExF (K : PySem.W.Frag) (f : Str) (te : TE) : TE := fun σ H Q => te σ H fun x H1 => ∃ (a C : Addr) (fs : List (Str × V)) (v : V), x = .ref a ∧ Ex H1 a C fs ∧ XfC K C ∧ PySem.W.findIn K (.ref C) f = some none ∧ fs.lookup f = some v ∧ Q v H1
/-! ### making -/
/-- C(): a class without an own __init__ -/
def tExc0 (C : Addr) : TE := fun _ H Q => ∀ a, H a = none → Q (.ref a) (upd H a (exo a C none))
/-- C(e, ..), C's own __init__ keeping sp -/
def tMkX (C : Addr) (sp : Sp) (ta : TA) : TE := fun σ H Q => ta σ H fun vs H1 => vs.length ≤ 1000 ∧ ∀ a, H1 a = none → sp (.ref a :: vs) (upd H1 a (exo a C none)) (fun v H2 => v = .non ∧ Q (.ref a) H2) E0
/-! ### what is told of a class -/
structure XCls (K : PySem.W.Frag) (C : Addr) : Prop where
  o : OexC K C
  f : XfC K C
  i : ExcC K C
/-- isinstance of each by each -/
def xisB (K : PySem.W.Frag) (xs : List Str) (H : Str) : Bool := xs.all fun x => (decide (PySem.W.kitOne K (.ref (He.ga K x)) (.ref (He.ga K H)) = some true) && decide (PySem.W.kitOne K (.ref (He.ga K x)) (.type "ValueError") = some true)) && xs.all fun y => decide (PySem.W.kitOne K (.ref (He.ga K x)) (.ref (He.ga K y)) = some (decide (x = y)))
structure XIs (K : PySem.W.Frag) (xs : List Str) (H : Str) : Prop where
  own : ∀ x ∈ xs, ∀ y ∈ xs, PySem.W.kitOne K (.ref (He.ga K x)) (.ref (He.ga K y)) = some (decide (x = y))
  up : ∀ x ∈ xs, PySem.W.kitOne K (.ref (He.ga K x)) (.ref (He.ga K H)) = some true
  ve : ∀ x ∈ xs, PySem.W.kitOne K (.ref (He.ga K x)) (.type "ValueError") = some true
/-! ### making, by a promise -/
/-- what an own __init__ does: n fields -/
def spX (C : Addr) (n : Nat) (gf : List V → List (Str × V)) : Sp := fun vs H Q _ => ∃ a ws, vs = .ref a :: ws ∧ ws.length = n ∧ H a = some (exo a C none) ∧ ∀ dx, H dx = none → dx ≠ a → Q .non (upd (upd H dx (exd dx (gf ws))) a (exo a C (some dx)))
section
variable {K : PySem.W.Frag} {σ : L2.St} {e : En} {B B' H : Hp} {L : Led} {Q : VK} {to te : TE} {ta : TA} {v x y : V} {vs : List V} {a dx C : Addr} {f : Str} {fs : List (Str × V)} {nx bk ct : L2.St → Hp → Prop} {rt : VK} {n : Nat} {gf : List V → List (Str × V)}
def OstK (K : PySem.W.Frag) (f : Str) (y : V) (N : Hp → Prop) : VK := fun x H2 => ∃ a C : Addr, x = .ref a ∧ OexC K C ∧ PySem.W.findIn K (.ref C) f = some none ∧
  ((H2 a = some (exo a C none) ∧ ∀ dx, H2 dx = none → dx ≠ a → N (upd (upd H2 dx (exd dx [(f, y)])) a (exo a C (some dx)))) ∨
    ∃ (dx : Addr) (fs : List (Str × V)), H2 a = some (exo a C (some dx)) ∧ H2 dx = some (exd dx fs) ∧ fs.length ≤ 900 ∧ N (upd H2 dx (exd dx ((f, y) :: fs))))
theorem y_ost (h : te σ H fun y H1 => to σ H1 (OstK K f y (nx σ))) : tOst K f to te ⟨nx, rt, bk, ct⟩ σ H := h
def MkXK (C : Addr) (sp : Sp) (Q : VK) : List V → Hp → Prop := fun vs H1 => vs.length ≤ 1000 ∧ ∀ a, H1 a = none → sp (.ref a :: vs) (upd H1 a (exo a C none)) (fun v H2 => v = .non ∧ Q (.ref a) H2) E0
theorem y_mkX (h : ta σ H (MkXK C (spX C n gf) Q)) : tMkX C (spX C n gf) ta σ H Q := h
def ExFK (K : PySem.W.Frag) (f : Str) (Q : VK) : VK := fun x H1 => ∃ (a C : Addr) (fs : List (Str × V)) (v : V), x = .ref a ∧ Ex H1 a C fs ∧ XfC K C ∧ PySem.W.findIn K (.ref C) f = some none ∧ fs.lookup f = some v ∧ Q v H1
theorem y_exF (h : te σ H (ExFK K f Q)) : tExF K f te σ H Q := h
end
end Y
/-! Wider rules: products of wide numbers, isinstance of exceptions too, sorted of many things. -/
namespace Y
open PySem PySem.Spec PyProof.Rows L2
def rMulZ : R2 := fun x y H Q => ∃ i j, x = .int i ∧ y = .int j ∧ (CMul i j ∨ CMulW i j) ∧ Q (.int (i * j)) H
def rIsiZ (K : PySem.W.Frag) : List V → Hp → VK → Prop := fun xs H Q => rIsi K xs H Q ∨ rIsX K xs H Q
def rSortZ (K : PySem.W.Frag) : List V → Hp → VK → Prop := fun xs H Q => rSortU K xs H Q ∨ rSortC K xs H Q ∨ rSortDK xs H Q ∨ rSortDT xs H Q
section
variable {X : Cx} {K : PySem.W.Frag}
theorem op_mulZ : OpR X (binaryOp .Mult) rMulZ := by
  intro pins s σ H x y v u Q I rx ry h
  obtain ⟨i, j, e1, e2, h | h, q⟩ := h
  · exact op_mul pins s σ H x y v u Q I rx ry ⟨i, j, e1, e2, h, q⟩
  · exact op_mulW pins s σ H x y v u Q I rx ry ⟨i, j, e1, e2, h, q⟩
theorem call_isiZ (hK : X.K = K) : CallR X (.builtin "isinstance") (rIsiZ K) := CallR.or (call_isiU hK) (call_isX hK)
theorem call_sortedZ (hK : X.K = K) (hc : X.calm = true) (hu : X.A.units + 64 < cLine) : CallR X (.builtin "sorted") (rSortZ K) := CallR.or (call_sortedU hK) (CallR.or (cr_sortC hK hu) (CallR.or (cr_sortDK hc hu) (cr_sortDT hc hu)))
end
section
variable {K : PySem.W.Frag} {e : En} {B H : Hp} {L : Led} {Q : VK} {x : V} {a C : Addr} {fs : List (Str × V)}
theorem y_mulZ {i j : Int} (h : CMul i j) (q : Q (.int (i * j)) H) : rMulZ (.int i) (.int j) H Q := ⟨i, j, rfl, rfl, .inl h, q⟩
theorem y_mulW {i j : Int} {a b : Nat} (ha : i.natAbs < 2 ^ a) (hb : j.natAbs < 2 ^ b) (h0 : 0 < a) (h1 : 0 < b) (h : a + b ≤ 1000000) (q : Q (.int (i * j)) H) : rMulZ (.int i) (.int j) H Q := ⟨i, j, rfl, rfl, .inr (wide_mul ha hb h0 h1 h), q⟩
theorem y_isiZ {s t : String} {r : Bool} (S : Sy e B H L) (h : Kd K B x s) (hr : kitB s t = some r) (q : Q (.bl r) H) : rIsiZ K [x, .ty t] H Q := .inl (y_isi (h.up S.bh) hr q)
/-- isinstance(an exception, an own class) -/
theorem y_isX {D : Addr} {b : Bool} (S : Sy e B H L) (hx : Ex B a C fs) (T : XCls K C) (h : PySem.W.kitOne K (.ref C) (.ref D) = some b) (q : Q (.bl b) H) : rIsiZ K [.ref a, .ref D] H Q :=
  .inr ⟨a, C, fs, .ref D, .ref D, b, rfl, S.bh.ex hx, T.i, fun u ru => ru, h, q⟩
end
end Y
/-! Sets of ints and texts: made of a list, counted, sorted. -/
namespace Y
open PySem PySem.Spec PyProof.Rows L2
theorem paired_perm {α β : Type} {F : α → β → Prop} : ∀ {l l' : List α}, l'.Perm l → ∀ {m : List β}, Paired F l m → ∃ m', m'.Perm m ∧ Paired F l' m' := by
  intro l l' p
  induction p with
  | nil => exact fun h => ⟨_, .refl _, h⟩
  | cons x _ ih =>
    intro m h
    cases h with
    | cons r t =>
      obtain ⟨m', p', h'⟩ := ih t
      exact ⟨_ :: m', p'.cons _, .cons r h'⟩
  | swap x y l =>
    intro m h
    cases h with
    | cons r t =>
      cases t with
      | cons r2 t2 => exact ⟨_, .swap _ _ _, .cons r2 (.cons r t2)⟩
  | trans _ _ ih1 ih2 =>
    intro m h
    obtain ⟨m1, p1, h1⟩ := ih2 h
    obtain ⟨m2, p2, h2⟩ := ih1 h1
    exact ⟨m2, p2.trans p1, h2⟩
def GoodK (P : Program) (w : World) (e : Int × Value) (k : Key) : Prop := (mixKind P w).is k e.2 = true ∧ e.1 = (mixKind P w).hash k ∧ e.2.scannable = true
/-- the set at a: its members are those of ks -/
def SetM (P : Program) (w : World) (h : Heap) (a : Addr) (ks : List Key) : Prop :=
  ∃ o es ep t kl, h.get? a = some o ∧ o.ExactSet ∧ o.data = .set es ep t ∧ Paired (GoodK P w) es.toList kl ∧ kl.Nodup ∧ kl.Perm ks ∧ es.size < scanBound ∧ t.fits es.size = true ∧ Ris t.place.toList ∧ (w.params.followText "set-order" = true ∨ t.led = true)
def setO (P : Program) (w : World) (a : Addr) (ks : List Key) : HO := .ext fun h => SetM P w h a ks
section
variable {P : Program} {w : World} {h h' : Heap} {a : Addr} {ks : List Key}
theorem SetM.at (R : SetM P w h a ks) (k : ∀ o, h.get? a = some o → h'.get? a = some o) : SetM P w h' a ks := by
  obtain ⟨o, es, ep, t, kl, ho, r⟩ := R
  exact ⟨o, es, ep, t, kl, k o ho, r⟩
end
section
variable {P : Program} {w : World} {A : Around} {E : Value → Shared → Prop} {s : Shared} {a : Addr} {ks : List Key}
theorem SetM.len (R : SetM P w s.heap a ks) : ks.length < scanBound := by
  obtain ⟨o, es, ep, t, kl, ho, hex, hd, g, nd, hm, hb, r⟩ := R
  have := hm.length_eq
  have h2 : es.toList.length = kl.length := g.length
  rw [Array.length_toList] at h2
  omega
open Classical in
/-- k added -/
noncomputable def addK (ks : List Key) (k : Key) : List Key := if k ∈ ks then ks else ks ++ [k]
/-- the first times -/
noncomputable def firstK (ks : List Key) : List Key := ks.foldl addK []
end
section
variable {prog : Program} {w : World} {A : Around} {R : Result → Shared → Prop} {I : Addr} {fp wr : List Addr} {G : Array GenState → Array GenState → Prop} {P : Nat → Value → Prop} {St : Nat → Shared → Prop}
end
section
variable {prog : Program} {w : World} {A : Around} {E : Value → Shared → Prop} {s : Shared}
end
/-! ### seen from the walk -/
section
variable {X : Cx}
/-- set(xs) of keys -/
def rSetM (P : Program) (w : World) (K : PySem.W.Frag) : List V → Hp → VK → Prop := fun vs H Q => ∃ (a : Addr) (ks : List Key), vs = [.ref a] ∧ SqL K H a (ks.map kV) ∧ ks.length + 1 < scanBound ∧ ∀ p, H p = none → Q (.ref p) (upd H p (setO P w p (firstK ks)))
/-- sorted(a set of keys alike) -/
def rSortM (P : Program) (w : World) : List V → Hp → VK → Prop := fun vs H Q => ∃ (a : Addr) (ks : List Key), vs = [.ref a] ∧ H a = some (setO P w a ks) ∧ PySem.W.AllAlike (ks.map keyD) ∧ ∀ kl : List Key, kl.Perm ks → NewK (.lst ((kl.mergeSort fun k l => leD (keyD k) (keyD l)).map kV)) Q H
theorem each_keys {H : Hp} {K : PySem.W.Frag} {P : Program} {w : World} : ∀ {vs : List Value} {kl : List Key}, Paired (fun v k => (mixKind P w).is k v = true) vs kl → PySem.W.EachIs (fun (v : Value) (b : V × Key) => RelV b.1 v ∧ Dp K H b.1 (keyD b.2)) vs (kl.map fun k => (kV k, k))
  | _, _, .nil => .nil
  | _, _, .cons r t => .cons ⟨keyIs_rel r, dp_key _⟩ (each_keys t)
theorem pr_vals {P : Program} {w : World} : ∀ {l : List (Int × Value)} {kl : List Key}, Paired (GoodK P w) l kl → Paired (fun v k => (mixKind P w).is k v = true) (l.map (·.2)) kl
  | _, _, .nil => .nil
  | _, _, .cons r t => .cons r.1 (pr_vals t)
theorem cr_sortM {P : Program} {w : World} (hP : X.prog = P) (hw : X.w = w) (hc : X.calm = true) (hu : X.A.units + 64 < cLine) : CallR X (.builtin "sorted") (rSortM P w) := by
  subst hP hw
  intro pins s σ H vs us Q I r h
  obtain ⟨a, ks, rfl, ha, hal, q⟩ := h
  obtain ⟨u, rfl, ru⟩ := vals1 r
  obtain rfl : u = Value.ref a := ru
  obtain ⟨o, es, ep, t, kl, ho, hex, hd, g, nd, hm, hb, hf, hr, hl⟩ := (show SetM X.prog X.w s.heap a ks from (I.hok a _ ha).1)
  refine Calls.call_function_entry kind_sorted plain_sorted entry_sorted (args_sorted1 _) ?_
  unfold Builtin.«sorted»
  refine wpAny_bind (m := checkCount "sorted" 1 1 _) (wpAny_pure ?_)
  refine wpAny_bind (collect_set (A := X.A.in1) (I.ok.hd hc) ⟨o, ho, hex.1, hd⟩ hf hb hr hl fun s1 vs k1 hz g1 o1 pm => ?_)
  obtain ⟨hp, gg, dd, tk, oo⟩ := s1
  have g1 : gg = s.gens := g1
  have o1 : oo = s.os := o1
  subst g1 o1
  have I1 : Inv X pins σ H { s with heap := hp, gens := s.gens, drawn := dd, toks := tk } := I.call (ch := []) (Un.kept k1) (I.hok.kept k1) I.bare (fun _ z => nomatch z)
  obtain ⟨kl2, pk, gv⟩ := paired_perm pm (pr_vals g)
  have eb := each_keys (K := X.K) (H := H) gv
  have pks : kl2.Perm ks := pk.trans hm
  have al2 : PySem.W.AllAlike ((kl2.map fun k => (kV k, k)).map fun b : V × Key => keyD b.2) := by
    rw [List.map_map]
    intro d hd e he
    refine hal d ?_ e ?_
    · obtain ⟨k, hk, rfl⟩ := List.mem_map.mp hd
      exact List.mem_map.mpr ⟨k, pks.mem_iff.mp hk, rfl⟩
    · obtain ⟨k, hk, rfl⟩ := List.mem_map.mp he
      exact List.mem_map.mpr ⟨k, pks.mem_iff.mp hk, rfl⟩
  have sk2 : PySem.W.Sortable ((kl2.map fun k => (kV k, k)).map fun b : V × Key => keyD b.2) := by
    have := sortable_keys (l := kl2)
    rw [List.map_map]
    exact this
  have hal1 : vs.length ≤ sizeLine := by
    rw [pm.length_eq, List.length_map, Array.length_toList]
    exact fits_of_scanBound hb
  refine wpAny_bind (wpAny_newList ?_ hal1)
  have hoL : (hp.push (seqObj "list" vs.toArray 0)).get? hp.objs.size = some (seqObj "list" vs.toArray 0) := Heap.get?_push_size _ rfl
  show wpAny _ _ _ _ _ { s with heap := hp.push (seqObj "list" vs.toArray 0), gens := s.gens, drawn := dd, toks := tk }
  have up : ∀ (b : Addr) (o : Obj), hp.get? b = some o → (PySem.W.sortingHeap (hp.push (seqObj "list" vs.toArray 0)) hp.objs.size vs).get? b = some o := fun b o e =>
    PySem.W.sortingHeap_old (Nat.ne_of_lt (Heap.lt_size e)) (Heap.get?_push_of_some _ e)
  have er : PySem.W.EachIs (fun (v : Value) (b : V × Key) => ∃ as, Reads (PySem.W.sortingHeap (hp.push (seqObj "list" vs.toArray 0)) hp.objs.size vs) v (keyD b.2) as) vs (kl2.map fun k => (kV k, k)) := eb.mono fun v b hb => by
    obtain ⟨as, h1⟩ := Dp.reads I1 _ b.1 v hb.2 hb.1
    exact ⟨as, PyProof.Rows.Reads.keeps up h1⟩
  refine wpAny_bind (wpAny_holding (wpAny_call_entry slot_list_sort ⟨_, hoL, rfl⟩ entry_list_sort
    (PySem.W.list_sort_vals (s := { s with heap := hp.push (seqObj "list" vs.toArray 0), gens := s.gens, drawn := dd, toks := tk }) hoL
      (PySem.W.SortsAt.data (s := { s with heap := PySem.W.sortingHeap (hp.push (seqObj "list" vs.toArray 0)) hp.objs.size vs, gens := s.gens, drawn := dd, toks := tk }) (PySem.W.each_map (R := fun v d => ∃ as, Reads (PySem.W.sortingHeap (hp.push (seqObj "list" vs.toArray 0)) hp.objs.size vs) v d as) (fun b : V × Key => keyD b.2) er) al2 sk2 (fun d hd => ?_)) hal1 ⟨_, rfl, ?_⟩) (args_list_sort _)))
  · obtain ⟨b, hb, rfl⟩ := List.mem_map.mp hd
    have := keyD_dep b.2
    show X.A.units + 1 + 1 + (keyD b.2).depth < cLine
    omega
  · have ho := PySem.W.sortVals_data false eb er al2
    have hv := vals_each ho
    obtain ⟨e', he'⟩ := sortedHeap_at (vs := vs) (out := (PySem.W.sortVals (PySem.W.dataKind (PySem.W.sortingHeap (hp.push (seqObj "list" vs.toArray 0)) hp.objs.size vs) ((kl2.map fun k => (kV k, k)).map fun b => keyD b.2)) false vs vs).toArray) hoL
    have e2 : ((kl2.map fun k => (kV k, k)).mergeSort fun p q => leD (keyD p.2) (keyD q.2)).map (·.1) = (kl2.mergeSort fun k l => leD (keyD k) (keyD l)).map kV := by
      rw [← List.map_mergeSort (r := fun k l => leD (keyD k) (keyD l)) (f := fun k => (kV k, k)) (fun _ _ _ _ => rfl), List.map_map]
      rfl
    have hv2 : Vals ((kl2.mergeSort fun k l => leD (keyD k) (keyD l)).map kV) _ := e2 ▸ hv
    refine wpAny_pure ⟨_, rfl, .ref hp.objs.size, upd H hp.objs.size (.lst ((kl2.mergeSort fun k l => leD (keyD k) (keyD l)).map kV)), I1.laid (t' := tk) (fun b u e => ?_) (Nat.le_refl _) (show ObjOk X.prog X.w _ _ _ (.lst _) from ⟨?_, _, e', hv2, he'⟩), rfl, q kl2 pks _ (I1.hok.fresh (Nat.le_refl _))⟩
    · have hb : b < hp.objs.size := Heap.lt_size e
      rw [sortedHeap_old (Nat.ne_of_lt hb) (by rw [size_push']; exact Nat.lt_succ_of_lt hb)]
      exact Heap.get?_push_of_some _ e
    · rw [List.length_map, List.length_mergeSort]
      have h3 : vs.length = (kl2.map fun k => (kV k, k)).length := eb.length
      rw [List.length_map] at h3
      rw [← h3]
      exact hal1
/-- len(a set) -/
def rLenM (P : Program) (w : World) : List V → Hp → VK → Prop := fun vs H Q => ∃ (a : Addr) (ks : List Key), vs = [.ref a] ∧ H a = some (setO P w a ks) ∧ Q (.int ks.length) H
end
end Y
/-! sorted(xs, key=f), f a def that changes nothing and gives ints. -/
namespace Y
open PySem PySem.Calls PySem.Spec PyProof.Rows L2 PySem.W
section
variable {prog : Program} {w : World} {A : Around} {E : Value → Shared → Prop} {s : Shared} {a kS : Addr} {b : Bool} {vs : List Value} {keys : Array Value} {e e1 : Nat} {P : PySem.Fin → Shared → Prop} {kz : List PyData}
end
section
variable {X : Cx}
/-- what holds between the first state and one while the keys are told -/
structure Bet (X : Cx) (H : Hp) (s : Shared) (H1 : Hp) (s1 : Shared) : Prop where
  os : s1.os = s.os
  bare : AllBare s1.gens
  un : Un (frs X.stack) [] H H1 s.heap s1.heap
  hok : HOk X.prog X.w H1 s1.heap
  same : Same H H1
/-- an object that is not tracked and was not there at first is changed -/
theorem Bet.turn {H H1 : Hp} {s s1 : Shared} {c : Addr} {h2 : Heap} {tk : Nat} (B : Bet X H s H1 s1) (h0 : s.heap.get? c = none) (hc : H1 c = none) (k : ∀ b o, b ≠ c → s1.heap.get? b = some o → h2.get? b = some o) : Bet X H s H1 { s1 with heap := h2, toks := tk } := by
  have ne : ∀ b o, s.heap.get? b = some o → b ≠ c := fun b o q z => by rw [z, h0] at q; cases q
  refine ⟨B.os, B.bare, ⟨fun b o q n hb hx => k b o (ne b o q) (B.un.keep b o q n hb hx), fun b o q n hb hx => ?_, B.un.free, fun b o q hx => ?_, B.un.tups, B.un.frzs, B.un.tbls⟩, fun b u q => ?_, B.same⟩
  · obtain ⟨sl, hs⟩ := B.un.slot b o q n hb hx
    exact ⟨sl, k b _ (ne b o q) hs⟩
  · obtain ⟨o', hs⟩ := B.un.there b o q hx
    exact ⟨o', k b _ (ne b o q) hs⟩
  · have nit : ∀ b u, H1 b = some u → b ≠ c := fun b u e z => by rw [z, hc] at e; cases e
    refine (B.hok b u q).stay (fun d v hd q2 => k d v ?_ q2) (fun _ q => q) fun _ _ q => q
    rcases hd with z | z
    · rw [z]; exact nit b u q
    · exact nit d _ z
theorem Bet.refl {H : Hp} {s : Shared} {pins : List (Addr × Obj)} {σ : L2.St} (I : Inv X pins σ H s) : Bet X H s H s := ⟨rfl, I.bare, Un.refl, I.hok, Same.refl _⟩
theorem Bet.kept {H H1 : Hp} {s s1 : Shared} {h2 : Heap} {tk : Nat} (B : Bet X H s H1 s1) (k : ∀ b o, s1.heap.get? b = some o → h2.get? b = some o) : Bet X H s H1 { s1 with heap := h2, toks := tk } :=
  ⟨B.os, B.bare, B.un.trans (Un.kept k), B.hok.kept k, B.same⟩
/-- sorted(xs, key=f) -/
def rSortKey (sp : Sp) (K : PySem.W.Frag) : List V → Hp → VK → Prop := fun vs H Q => ∃ (a : Addr) (xs : List V) (ks : List Int), vs = [.ref a] ∧ SqL K H a xs ∧ ks.length = xs.length ∧
  (∀ (i : Nat) (x : V) (k : Int), xs[i]? = some x → ks[i]? = some k → ∀ H1, Same H H1 → ∀ E, sp [x] H1 (fun v H2 => v = .int k ∧ Same H1 H2) E) ∧
  ∀ H1, Same H H1 → NewK (.lst (((xs.zip ks).mergeSort fun p q => decide (p.2 ≤ q.2)).map (·.1))) Q H1
/-- sorted(e, key=x), x a def -/
def tSortKey (sp : Sp) (K : PySem.W.Frag) (ta : TA) : TE := fun σ H Q => ta σ H fun vs H1 => rSortKey sp K vs H1 Q
end
section
variable {P : Program} {w : World} {K : PySem.W.Frag} {mg : Str → Option Value} {base : Heap} {X : Cx}
end
/-! ### a thing is locked for good -/
def tFrz (t : TE) : TE := fun σ H Q => t σ H fun x H1 => ∃ d u, x = .ref d ∧ H1 d = some u ∧ Mut (some u) ∧ ∀ od, Q x (upd H1 d (.frz od u))
/-- behind it: what is locked stands in the base -/
def FrzK (Q : VK) : VK := fun x H1 => ∃ d u, x = .ref d ∧ H1 d = some u ∧ Mut (some u) ∧ ∀ od, Q x (upd H1 d (.frz od u))
section
variable {e : En} {B H H1 : Hp} {L : Led} {K : PySem.W.Frag} {Q : VK} {σ : L2.St} {te : TE} {d : Addr}
theorem y_frz (h : te σ H (FrzK Q)) : tFrz te σ H Q := h
/-- all that stood stands -/
theorem Sy.grow (S : Sy e B H L) (h : Same H H1) : Sy e B H1 L := by
  refine ⟨S.b0, fun a o q => ?_, fun p hp => ?_, S.nd, fun a o h1 h2 q => h _ _ (S.keep a o h1 h2 q), S.fresh, fun a q => ?_, fun p hp => h _ _ (S.zin p hp), fun a o q hk => ?_, S.nt⟩
  · rcases S.bh a o q with z | ⟨z1, ob, z2⟩
    · exact .inl (h _ _ z)
    · exact .inr ⟨z1, ob, h _ _ z2⟩
  · obtain ⟨h1, h2, h3, h4⟩ := S.led p hp
    exact ⟨h _ _ h1, h2, h3, h4⟩
  · have := S.there a q
    cases z : H a with
    | none => exact absurd z this
    | some o => rw [h _ _ z]; simp
  · rcases S.lk a o q hk with z | z
    · exact .inl (h _ _ z)
    · exact .inr z
end
end Y
/-! Dealings as they are told for ties. -/
namespace Y
open PySem PySem.Spec PyProof.Rows L2
structure Dl where
  num : Int
  stand : Int
  place : Int
  reads : List Str
  ranges : List (Str × Str)
  writes : List Str
deriving DecidableEq
abbrev cS : Cod (List Str) := .list .str
abbrev cR : Cod (List (Str × Str)) := .list (.tup2 .str .str)
def rowC : Cod Dl := ⟨fun r => .tuple [.int r.num, .int r.stand, .int r.place, cS.enc r.reads, cR.enc r.ranges, cS.enc r.writes], 5, fun r => by
    simp only [PyData.plain, PyData.plainAll, cS.pl, cR.pl, Bool.and_true], fun r => by
    have h1 := cS.dp r.reads
    have h2 := cR.dp r.ranges
    have h3 := cS.dp r.writes
    have e1 : cS.dep = 2 := rfl
    have e2 : cR.dep = 3 := rfl
    simp only [PyData.depth, PyData.depthAll]
    omega, fun r s => by
    obtain ⟨a, b, c, d, f, g⟩ := r
    obtain ⟨a', b', c', d', f', g'⟩ := s
    simp only [PyData.eqv, PyData.eqvAll, Bool.and_eq_true, cS.eq, cR.eq, Dl.mk.injEq, beq_iff_eq, and_true]⟩
section
variable {K : PySem.W.Frag} {B : Hp} {v : V} {r : Dl}
theorem At.row {a : Addr} {v4 v5 v6 : V} (h : SqT K B a [.int r.num, .int r.stand, .int r.place, v4, v5, v6]) (h4 : At cS K B v4 r.reads) (h5 : At cR K B v5 r.ranges) (h6 : At cS K B v6 r.writes) : At rowC K B (.ref a) r :=
  .tup h (.cons (.int _) (.cons (.int _) (.cons (.int _) (.cons h4 (.cons h5 (.cons h6 .nil))))))
end
/-! ### rules -/
section
variable {X : Cx} {K : PySem.W.Frag} {e : En} {B H : Hp} {L : Led} {Q : VK} {σ : L2.St} {te td ty tx : TE} {a b d p : Addr} {xs ys : List V} {v y : V}
theorem sl_tupK (hK : X.K = K) : SlR X (rSlT K) := hK ▸ sl_tup
theorem y_slT {lo hi : Option Int} (h : SqT K H a xs) (hc : ¬ (HT.sIx xs.length 0 lo = 0 ∧ HT.sIx xs.length xs.length hi = xs.length)) (q : NewK (.tup (cutV xs lo hi)) Q H) : rSlT K (.ref a) lo hi H Q := ⟨a, xs, rfl, h, hc, q⟩
theorem y_catT (h1 : SqT K H a xs) (h2 : SqT K H b ys) (n1 : xs ≠ []) (n2 : ys ≠ []) (hl : xs.length + ys.length ≤ sizeLine) (q : NewK (.tup (xs ++ ys)) Q H) : rAddU K (.ref a) (.ref b) H Q :=
  .inr (.inr (.inr ⟨a, b, xs, ys, rfl, rfl, h1, h2, n1, hl, fun z => absurd z n2, fun _ => q⟩))
/-- xs.insert(i, y) -/
def rIns : V → List V → Hp → VK → Prop := fun x vs H Q => ∃ (l : Addr) (xs : List V) (i : Int) (y : V), x = .ref l ∧ vs = [.int i, y] ∧ H l = some (.lst xs) ∧ xs.length < sizeLine ∧ 0 ≤ i ∧ i < 2 ^ 63 ∧ Q .non (upd H l (.lst (xs.take i.toNat ++ [y] ++ xs.drop i.toNat)))
/-- a, b = x, y -/
def ParK (i j : Nat) (nx : L2.St → Hp → Prop) (σ : L2.St) : List V → Hp → Prop := fun vs H1 => ∃ v w, vs = [v, w] ∧ nx ((σ.set i (some v)).set j (some w)) H1
theorem y_par {i j : Nat} {ta : TA} {nx bk ct : L2.St → Hp → Prop} {rt : VK} (h : ta σ H (ParK i j nx σ)) : tPar i j ta ⟨nx, rt, bk, ct⟩ σ H := h
theorem y_parK {i j : Nat} {nx : L2.St → Hp → Prop} {v w : V} (h : nx ((σ.set i (some v)).set j (some w)) H) : ParK i j nx σ [v, w] H := ⟨v, w, rfl, h⟩
def Par3K (i j l : Nat) (nx : L2.St → Hp → Prop) (σ : L2.St) : List V → Hp → Prop := fun vs H1 => ∃ u v w, vs = [u, v, w] ∧ nx (((σ.set i (some u)).set j (some v)).set l (some w)) H1
theorem y_par3 {i j l : Nat} {ta : TA} {nx bk ct : L2.St → Hp → Prop} {rt : VK} (h : ta σ H (Par3K i j l nx σ)) : tPar3 i j l ta ⟨nx, rt, bk, ct⟩ σ H := h
theorem y_par3K {i j l : Nat} {nx : L2.St → Hp → Prop} {u v w : V} (h : nx (((σ.set i (some u)).set j (some v)).set l (some w)) H) : Par3K i j l nx σ [u, v, w] H := ⟨u, v, w, rfl, h⟩
theorem y_sortk {sp : Sp} {ta : TA} (h : ta σ H fun vs H1 => rSortKey sp K vs H1 Q) : tSortKey sp K ta σ H Q := h
theorem y_dnewT (h : NewK (.dT []) Q H) : tDNewT σ H Q := h
/-- d.setdefault(y, z) -/
def SetdK (ty tx : TE) (σ : L2.St) (Q : VK) : VK := fun x H1 => ∃ a, x = .ref a ∧ IsD H1 a ∧ ty σ H1 fun y H2 => tx σ H2 fun z H3 => ∃ (kvs : List (Key × V)) (k : Key), H3 a = some (.dK kvs) ∧ y = kV k ∧ kvs.length < sizeLine ∧
  (∀ v, valV kvs k = some v → Q v H3) ∧ (valV kvs k = none → Q z (upd H3 a (.dK (putK kvs k z))))
theorem y_setd (h : td σ H (SetdK ty tx σ Q)) : tDSetd td ty tx σ H Q := h
/-- d[(a, b)] = v -/
theorem y_setT {N : Hp → Prop} (n : Nat) {kvs : List (List Key × V)} {i j : Int} (S : Sy e B H L) (h : L[n]? = some (d, .dT kvs)) (hb : H b = some (.tup [.int i, .int j])) (hl : kvs.length < sizeLine) (k : ∀ H', Sy e B H' (L.set n (d, .dT (putK kvs [.inl i, .inl j] v))) → N H') : rSetU (.ref d) (.ref b) v H N :=
  .inr ⟨d, _, rfl, .inr ⟨kvs, [.inl i, .inl j], b, S.at n h, rfl, hb, hl, rfl⟩, k _ (S.wr n h _)⟩
/-- all of a part of the ledger changes no more -/
theorem Sy.frzAll : ∀ {N L : Led} {B : Hp}, Sy e B H (N ++ L) → (∀ p ∈ N, e.H p.1 = Option.none) → ∃ B', Same B B' ∧ (∀ p ∈ N, B' p.1 = some p.2) ∧ Sy e B' H L
  | [], L, B, S, _ => ⟨B, Same.refl _, fun p hp => (by cases hp), S⟩
  | (a, o) :: N, L, B, S, hn => by
    obtain ⟨b1, S1⟩ := Sy.freeze S (hn _ List.mem_cons_self)
    obtain ⟨B2, b2, h2, S2⟩ := Sy.frzAll S1 fun p hp => hn p (List.mem_cons_of_mem _ hp)
    refine ⟨B2, b1.trans b2, fun p hp => ?_, S2⟩
    rcases List.mem_cons.mp hp with rfl | hp
    · exact b2 _ _ upd_same
    · exact h2 p hp
/-- pairs that stand are taken into the base -/
theorem Sy.adoptAll {L : Led} : ∀ {bs : List (V × (Int × Int))} {B : Hp}, Sy e B H L → (∀ b ∈ bs, ∃ t, b.1 = .ref t ∧ H t = some (.tup [.int b.2.1, .int b.2.2])) → ∃ B', Same B B' ∧ (∀ b ∈ bs, PairAt B' b.1 b.2) ∧ Sy e B' H L
  | [], B, S, _ => ⟨B, Same.refl _, fun b hb => (by cases hb), S⟩
  | b :: bs, B, S, h => by
    obtain ⟨t, e1, ht⟩ := h b List.mem_cons_self
    obtain ⟨B1, b1, h1, S1⟩ := S.adopt ht
    obtain ⟨B2, b2, h2, S2⟩ := Sy.adoptAll S1 fun c hc => h c (List.mem_cons_of_mem _ hc)
    refine ⟨B2, b1.trans b2, fun c hc => ?_, S2⟩
    rcases List.mem_cons.mp hc with rfl | hc
    · exact ⟨t, e1, b2 _ _ h1⟩
    · exact h2 c hc
end
/-! ### a table with pairs as keys, its values all True -/
/-! ### sorted(..) of sets, too -/
def rSortW (P : Program) (w : World) (K : PySem.W.Frag) : List V → Hp → VK → Prop := fun xs H Q => rSortZ K xs H Q ∨ rSortM P w xs H Q
section
variable {X : Cx} {K : PySem.W.Frag} {P : Program} {w : World}
theorem call_sortedW (hP : X.prog = P) (hw : X.w = w) (hK : X.K = K) (hc : X.calm = true) (hu : X.A.units + 64 < cLine) : CallR X (.builtin "sorted") (rSortW P w K) := CallR.or (call_sortedZ hK hc hu) (cr_sortM hP hw hc hu)
end
section
variable {P : Program} {w : World} {K : PySem.W.Frag} {e : En} {B H : Hp} {L : Led} {Q : VK} {a d : Addr}
/-- texts go by their signs -/
def strLe (x y : Str) : Bool := !decide (sg y < sg x)
theorem leD_str (x y : Str) : leD (.str x) (.str y) = strLe x y := by
  unfold leD strLe
  rw [PySem.W.dataLt_str]
/-- sorted(xs) of texts -/
theorem y_sortStr {zs : List Str} (h : SqL K H a (zs.map V.str)) (q : NewK (.lst ((zs.mergeSort strLe).map V.str)) Q H) : rSortW P w K [.ref a] H Q := by
  refine .inl (.inr (.inl ⟨Str, PyData.str, a, zs.map V.str, zs, rfl, h, ?_, ?_, ?_, ?_, ?_⟩))
  · clear h q
    induction zs with
    | nil => exact .nil
    | cons z zs ih => exact .cons (.str z) ih
  · intro d hd d' hd'
    obtain ⟨x, _, rfl⟩ := List.mem_map.mp hd
    obtain ⟨y, _, rfl⟩ := List.mem_map.mp hd'
    simp [PySem.W.alike]
  · exact .inr fun d hd => by
      obtain ⟨x, _, rfl⟩ := List.mem_map.mp hd
      exact ⟨(fun z => by cases z), (fun _ z => by cases z)⟩
  · intro z _
    simp [PyData.depth]
  · have e1 : (((zs.map V.str).zip zs).mergeSort fun p q => leD (PyData.str p.2) (PyData.str q.2)).map (·.1) = (zs.mergeSort strLe).map V.str := by
      have e2 : (zs.map V.str).zip zs = zs.map fun z => (V.str z, z) := by
        clear h q
        induction zs with
        | nil => rfl
        | cons z zs ih => rw [List.map_cons, List.zip_cons_cons, ih]; rfl
      rw [e2, ← List.map_mergeSort (r := fun x y : Str => leD (PyData.str x) (PyData.str y)) (f := fun z : Str => (V.str z, z)) (fun _ _ _ _ => rfl), List.map_map]
      have e3 : (fun x y : Str => leD (PyData.str x) (PyData.str y)) = strLe := by
        funext x y
        exact leD_str x y
      rw [e3]
      rfl
    rw [e1]
    exact q
/-- sorted(set(xs)) of texts: each once -/
theorem y_setStr {zs : List Str} (h : SqL K H a (zs.map V.str)) (hl : zs.length + 1 < scanBound) (q : ∀ p, H p = none → Q (.ref p) (upd H p (setO P w p (firstK (zs.map .inr))))) : rSetM P w K [.ref a] H Q := by
  refine ⟨a, zs.map .inr, rfl, ?_, by rw [List.length_map]; exact hl, q⟩
  rw [List.map_map]
  exact h
end
/-! ### dealings as drawn -/
structure DealOk (zs : List Str) (r : Dl) : Prop where
  n0 : 1 ≤ r.num
  n1 : r.num ≤ 100000000000000000000
  s0 : 0 ≤ r.stand
  s1 : r.stand < r.place
  p1 : r.place ≤ 1000000000000000000
  rd : ∀ y ∈ r.reads, y ∈ zs
  wr : ∀ y ∈ r.writes, y ∈ zs
  rl : r.reads.length ≤ 22
  wl : r.writes.length ≤ 22
  gl : r.ranges.length ≤ 2
structure DealsOk (zs : List Str) (rows : List Dl) : Prop where
  each : ∀ r ∈ rows, DealOk zs r
  nn : (rows.map (·.num)).Nodup
  np : (rows.map (·.place)).Nodup
  len : rows.length ≤ 100
theorem pr_take {α β : Type} {F : α → β → Prop} : ∀ {l : List α} {m : List β} (n : Nat), Paired F l m → Paired F (l.take n) (m.take n)
  | _, _, 0, _ => by rw [List.take_zero, List.take_zero]; exact .nil
  | _, _, _ + 1, .nil => .nil
  | _, _, n + 1, .cons r t => .cons r (pr_take n t)
theorem pr_drop {α β : Type} {F : α → β → Prop} : ∀ {l : List α} {m : List β} (n : Nat), Paired F l m → Paired F (l.drop n) (m.drop n)
  | _, _, 0, h => h
  | _, _, _ + 1, .nil => .nil
  | _, _, n + 1, .cons _ t => pr_drop n t
end Y
/-! Ties in plain words. -/
namespace Y
open PySem PySem.Spec PyProof.Rows L2
/-! ### pairs in their order -/
def leT (x y : Int × Int) : Bool := leD (.tuple [.int x.1, .int x.2]) (.tuple [.int y.1, .int y.2])
theorem leT_iff {x y : Int × Int} : leT x y = true ↔ x.1 < y.1 ∨ (x.1 = y.1 ∧ x.2 ≤ y.2) := by
  unfold leT leD
  have h : PySem.W.dataLt (.tuple [.int y.1, .int y.2]) (.tuple [.int x.1, .int x.2]) = if y.1 = x.1 then decide (y.2 < x.2) else decide (y.1 < x.1) := PySem.W.DatumOrd.lt_eq y x
  rw [h]
  by_cases c : y.1 = x.1
  · rw [if_pos c]
    simp
    omega
  · rw [if_neg c]
    simp
    omega
theorem leT_trans (x y z : Int × Int) (h1 : leT x y = true) (h2 : leT y z = true) : leT x z = true := by
  rw [leT_iff] at *
  omega
theorem leT_total (x y : Int × Int) : (leT x y || leT y x) = true := by
  rw [Bool.or_eq_true, leT_iff, leT_iff]
  omega
theorem leT_anti {x y : Int × Int} (h1 : leT x y = true) (h2 : leT y x = true) : x = y := by
  rw [leT_iff] at *
  apply Prod.ext <;> omega
/-- sorted, with the same members, each once: the same -/
theorem sorted_eq {α : Type} {le : α → α → Bool} (anti : ∀ x y, le x y = true → le y x = true → x = y) : ∀ {l m : List α}, l.Pairwise (fun x y => le x y = true) → m.Pairwise (fun x y => le x y = true) → l.Perm m → l = m := by
  intro l m h1 h2 p
  exact p.eq_of_pairwise (fun a b _ _ h3 h4 => anti a b h3 h4) h1 h2
/-! ### the program's ties -/
def asksB (r : Dl) (key : Str) : Bool := decide (key ∈ r.reads) || r.ranges.any fun p => !decide (sg key < sg p.1) && decide (sg key < sg p.2)
/-- by their places -/
def byPlace (rows : List Dl) : List Dl := rows.mergeSort fun z w => decide (z.place ≤ w.place)
/-- who writes a key, by places -/
def lineOf (rows : List Dl) (key : Str) : List Dl := (byPlace rows).filter fun r => decide (key ∈ r.writes)
def aheadN (r : Dl) (ds : List Dl) : List Int := (ds.filter fun o => decide (o.place ≤ r.stand)).map (·.num)
def behindN (r : Dl) (ds : List Dl) : List Int := (ds.filter fun o => decide (r.stand < o.place) && !decide (o.num = r.num)).map (·.num)
def readT (r : Dl) (ds : List Dl) : List (Int × Int) := ((aheadN r ds).getLast?.toList.map fun a => (a, r.num)) ++ ((behindN r ds).head?.toList.map fun b => (r.num, b))
/-- a tie by a key and its line -/
def TieK (rows : List Dl) (ds : List Dl) (key : Str) (x : Int × Int) : Prop := x ∈ (ds.zip (ds.drop 1)).map (fun q => (q.1.num, q.2.num)) ∨ ∃ r ∈ rows, asksB r key = true ∧ x ∈ readT r ds
def TieP (rows : List Dl) (x : Int × Int) : Prop := ∃ key, TieK rows (lineOf rows key) key x
structure TiesOk (rows : List Dl) (ts : List (Int × Int)) : Prop where
  nd : ts.Nodup
  st : ts.Pairwise fun x y => leT x y = true
  mem : ∀ x, x ∈ ts ↔ TieP rows x
theorem TiesOk.uniq {rows : List Dl} {ts us : List (Int × Int)} (h : TiesOk rows ts) (g : TiesOk rows us) : ts = us :=
  sorted_eq (le := leT) (fun x y => leT_anti) h.st g.st ((List.perm_ext_iff_of_nodup h.nd g.nd).mpr fun x => (h.mem x).trans (g.mem x).symm)
theorem TiesOk.of {rows : List Dl} {ps : List (Int × Int)} (nd : ps.Nodup) (mem : ∀ x, x ∈ ps ↔ TieP rows x) : TiesOk rows (ps.mergeSort leT) :=
  ⟨(List.mergeSort_perm ps leT).nodup_iff.mpr nd, List.pairwise_mergeSort leT_trans leT_total ps, fun x => (List.mergeSort_perm ps leT).mem_iff.trans (mem x)⟩
section
variable {K : PySem.W.Frag} {e : En} {B H : Hp} {L : Led} {Q : VK} {α : Type} {a : Addr} {y : V} {vs : List V} {zs ws : List α}
/-- != of a list of the ledger and one of the base -/
theorem y_neL [DecidableEq α] (c : Cod α) (S : Sy e B H L) (hx : H a = some (.lst vs)) (hp : Paired (At c K B) vs zs) (h2 : At (.list c) K B y ws) (hd : c.dep ≤ 49) (q : Q (.bl (!decide (zs = ws))) H) : rNeZ K (.ref a) y H Q := by
  refine .inr ⟨(Cod.list c).enc zs, (Cod.list c).enc ws, .lst (sqL hx) (Sub.ds S.bh (dpAll_of hp)), S.d h2, (Cod.list c).Pl zs (by show c.dep + 1 ≤ 50; omega), (Cod.list c).Pl ws (by show c.dep + 1 ≤ 50; omega), ?_⟩
  rw [Cod.dec]
  exact q
theorem PairAt.at {p : Int × Int} {v : V} (h : PairAt B v p) : At (.tup2 .int .int) K B v p := by
  obtain ⟨t, rfl, h⟩ := h
  exact .tup2 (sqT h) .int .int
end
end Y
/-! The law's ties are the program's, in plain words. -/
namespace Y
open PySem PySem.Spec PyProof.Rows L2
section
variable {α : Type} {p : α → Int}
theorem zip_next : ∀ {l : List α}, l.Pairwise (fun x y => p x < p y) → ∀ {x y : α}, ((x, y) ∈ l.zip (l.drop 1) ↔ x ∈ l ∧ y ∈ l ∧ p x < p y ∧ ∀ z ∈ l, ¬ (p x < p z ∧ p z < p y))
  | [], _, x, y => by simp
  | [a], _, x, y => by
    simp only [List.drop_succ_cons, List.drop_zero, List.zip_nil_right, List.not_mem_nil, List.mem_singleton, false_iff]
    rintro ⟨rfl, rfl, h, _⟩
    omega
  | a :: b :: l, h, x, y => by
    obtain ⟨h1, h2⟩ := List.pairwise_cons.mp h
    have ih := zip_next h2 (x := x) (y := y)
    have e1 : (a :: b :: l).zip ((a :: b :: l).drop 1) = (a, b) :: (b :: l).zip ((b :: l).drop 1) := rfl
    rw [e1, List.mem_cons, ih]
    have hab : p a < p b := h1 b List.mem_cons_self
    constructor
    · rintro (e | ⟨hx, hy, hxy, hz⟩)
      · injection e with e2 e3
        subst e2 e3
        refine ⟨List.mem_cons_self, List.mem_cons_of_mem _ List.mem_cons_self, hab, fun z hz => ?_⟩
        rcases List.mem_cons.mp hz with rfl | hz
        · omega
        · rcases List.mem_cons.mp hz with rfl | hz
          · omega
          · have := (List.pairwise_cons.mp h2).1 z hz
            omega
      · refine ⟨List.mem_cons_of_mem _ hx, List.mem_cons_of_mem _ hy, hxy, fun z hz2 => ?_⟩
        rcases List.mem_cons.mp hz2 with rfl | hz2
        · have := h1 x hx
          omega
        · exact hz z hz2
    · rintro ⟨hx, hy, hxy, hz⟩
      rcases List.mem_cons.mp hx with e2 | hx2
      · subst e2
        refine .inl ?_
        rcases List.mem_cons.mp hy with e3 | hy
        · subst e3; omega
        · rcases List.mem_cons.mp hy with e3 | hy
          · rw [e3]
          · have h4 := (List.pairwise_cons.mp h2).1 y hy
            exact absurd ⟨hab, h4⟩ (hz b (List.mem_cons_of_mem _ List.mem_cons_self))
      · refine .inr ⟨hx2, ?_, hxy, fun z hz2 => hz z (List.mem_cons_of_mem _ hz2)⟩
        rcases List.mem_cons.mp hy with e3 | hy
        · have := h1 x hx2
          rw [e3] at hxy
          omega
        · exact hy
end
theorem nodup_inj {α β : Type} {f : α → β} : ∀ {l : List α}, (l.map f).Nodup → ∀ {x y : α}, x ∈ l → y ∈ l → f x = f y → x = y
  | [], _, _, _, h, _, _ => by cases h
  | a :: l, nd, x, y, hx, hy, e => by
    rw [List.map_cons, List.nodup_cons] at nd
    rcases List.mem_cons.mp hx with e1 | hx2
    · rcases List.mem_cons.mp hy with e2 | hy2
      · rw [e1, e2]
      · exact absurd (List.mem_map.mpr ⟨y, hy2, by rw [← e, e1]⟩) nd.1
    · rcases List.mem_cons.mp hy with e2 | hy2
      · exact absurd (List.mem_map.mpr ⟨x, hx2, by rw [e, e2]⟩) nd.1
      · exact nodup_inj nd.2 hx2 hy2 e
/-! ### lines -/
section
variable {zs : List Str} {rows : List Dl} {key : Str}
theorem byPlace_perm : (byPlace rows).Perm rows := List.mergeSort_perm _ _
theorem byPlace_lt (np : (rows.map (·.place)).Nodup) : (byPlace rows).Pairwise fun x y => x.place < y.place := by
  have h1 : (byPlace rows).Pairwise fun x y => decide (x.place ≤ y.place) = true := List.pairwise_mergeSort (fun x y z h1 h2 => by simp at *; omega) (fun x y => by simp; omega) rows
  have h2 : ((byPlace rows).map (·.place)).Nodup := (byPlace_perm.map _).nodup_iff.mpr np
  have h3 : (byPlace rows).Pairwise fun x y => x.place ≠ y.place := List.pairwise_map.mp h2
  refine (h1.and h3).imp fun {x y} h => ?_
  have := of_decide_eq_true h.1
  have := h.2
  omega
theorem line_lt (np : (rows.map (·.place)).Nodup) : (lineOf rows key).Pairwise fun x y => x.place < y.place := (byPlace_lt np).sublist List.filter_sublist
theorem line_mem {r : Dl} : r ∈ lineOf rows key ↔ r ∈ rows ∧ key ∈ r.writes := by
  unfold lineOf
  rw [List.mem_filter, byPlace_perm.mem_iff, decide_eq_true_iff]
/-- what the law tries -/
def betweenF (one other : Dl) (key : Str) (rows : List Dl) : List Dl := rows.filter fun r => decide (key ∈ r.writes) && (!decide (r.num = one.num) && !decide (r.num = other.num))
def tie1 (one other : Dl) (key : Str) (rows : List Dl) : Bool := (decide (key ∈ one.writes) && decide (key ∈ other.writes) && decide (one.place < other.place)) && ((betweenF one other key rows).filter fun r => decide (one.place < r.place) && decide (r.place < other.place)).isEmpty
def tie2 (one other : Dl) (key : Str) (rows : List Dl) : Bool := (decide (key ∈ one.writes) && asksB other key && decide (one.place ≤ other.stand)) && ((betweenF one other key rows).filter fun r => decide (one.place < r.place) && decide (r.place ≤ other.stand)).isEmpty
def tie3 (one other : Dl) (key : Str) (rows : List Dl) : Bool := (decide (key ∈ other.writes) && asksB one key && decide (one.stand < other.place)) && ((betweenF one other key rows).filter fun r => decide (one.stand < r.place) && decide (r.place < other.place)).isEmpty
def tiedB (one other : Dl) (key : Str) (rows : List Dl) : Bool := tie1 one other key rows || (tie2 one other key rows || tie3 one other key rows)
/-- a tie is between two that are unlike, of these -/
theorem tieK_of (ok : DealsOk zs rows) {x : Int × Int} (h : TieK rows (lineOf rows key) key x) : ∃ one ∈ rows, ∃ other ∈ rows, one.num ≠ other.num ∧ x = (one.num, other.num) ∧ ∃ r ∈ rows, key ∈ r.writes := by
  have hs := line_lt (key := key) ok.np
  have num : ∀ {x y : Dl}, x ∈ rows → y ∈ rows → x.num = y.num → x = y := fun hx hy e => nodup_inj ok.nn hx hy e
  rcases h with h | ⟨r, hr, ha, h⟩
  · obtain ⟨⟨a, b⟩, hq, e⟩ := List.mem_map.mp h
    obtain ⟨b1, b2, b3, b4⟩ := (zip_next hs).mp hq
    refine ⟨a, (line_mem.mp b1).1, b, (line_mem.mp b2).1, fun z => ?_, e.symm, a, (line_mem.mp b1).1, (line_mem.mp b1).2⟩
    rw [num (line_mem.mp b1).1 (line_mem.mp b2).1 z] at b3
    omega
  · rcases List.mem_append.mp h with h | h
    · obtain ⟨n, hn, e⟩ := List.mem_map.mp h
      have hn := List.mem_of_getLast? (Option.mem_toList.mp hn)
      obtain ⟨a, ha2, rfl⟩ := List.mem_map.mp hn
      obtain ⟨b1, b2⟩ := List.mem_filter.mp ha2
      have b2 := of_decide_eq_true b2
      have s1 := (ok.each r hr).s1
      refine ⟨a, (line_mem.mp b1).1, r, hr, fun z => ?_, e.symm, a, (line_mem.mp b1).1, (line_mem.mp b1).2⟩
      rw [num (line_mem.mp b1).1 hr z] at b2
      omega
    · obtain ⟨n, hn, e⟩ := List.mem_map.mp h
      have hn := List.mem_of_head? (Option.mem_toList.mp hn)
      obtain ⟨a, ha2, rfl⟩ := List.mem_map.mp hn
      obtain ⟨b1, b2⟩ := List.mem_filter.mp ha2
      simp only [Bool.and_eq_true, decide_eq_true_eq, Bool.not_eq_true', decide_eq_false_iff_not] at b2
      exact ⟨r, hr, a, (line_mem.mp b1).1, fun z => b2.2 z.symm, e.symm, a, (line_mem.mp b1).1, (line_mem.mp b1).2⟩
/-- all ties, as the law tries them -/
def condB (keys : List Str) (rows : List Dl) (one other : Dl) : Bool := !decide (one.num = other.num) && keys.any fun key => tiedB one other key rows
end
end Y
/-! while, dict comprehensions, the least of a dict or of pairs, a dict against {}, how many a set has. -/
namespace Y
open PySem PySem.Spec PyProof.Rows L2
section
variable {K : PySem.W.Frag} {e : En} {B H : Hp} {L : Led} {Q : VK} {σ : L2.St} {nx bk ct : L2.St → Hp → Prop} {rt : VK}
/-- a while loop: W with a measure -/
theorem y_while {c : TT} {tb : TS} (W : Nat → L2.St → Hp → Prop) (m0 : Nat) (h0 : W m0 σ H)
    (hs : ∀ m σ H, W m σ H → ∀ QT : Bool → Hp → Prop, (∀ b H1, (if b = true then tb ⟨fun σ' H' => ∃ m', m' < m ∧ W m' σ' H', rt, nx, fun σ' H' => ∃ m', m' < m ∧ W m' σ' H'⟩ σ H1 else nx σ H1) → QT b H1) → c σ H QT) : tWhile c tb ⟨nx, rt, bk, ct⟩ σ H := by
  refine ⟨W, ⟨m0, h0⟩, fun m σ H hw => hs m σ H hw _ fun b H1 h => ?_⟩
  cases b with
  | false => exact h
  | true => exact ⟨_, fun _ _ q => q, h⟩
/-! ### dict comprehensions -/
def DcG (J : It) (g : TG) (tt : TT) (tk tv : TE) (vs : List Nat) (σ : L2.St) (Q : VK) : Hp → Prop := fun H1 => ∀ D, H1 D = none → ∃ W : Nat → Nat → Hp → Prop, (∃ m, W 0 m (upd H1 D (.dK []))) ∧ ∀ i m H, W i m H →
  (J.stop i H ∧ Q (.ref D) H) ∨ (J.go i H ∧ ∃ Nx : Hp → Prop, (∀ H', Nx H' → ∃ m', m' < m ∧ W (i + 1) m' H') ∧ ∀ x H', J.yld i H x H' → g x (wipe σ vs) H' fun σ2 H2 => wipe σ2 vs = wipe σ vs ∧ tt σ2 H2 fun b H3 =>
    if b = true then tk σ2 H3 fun y H4 => tv σ2 H4 fun z H5 => ∃ kvs k, y = kV k ∧ H5 D = some (.dK kvs) ∧ kvs.length < sizeLine ∧ Nx (upd H5 D (.dK (putK kvs k z))) else Nx H3)
theorem y_dc {wi : TI} {g : TG} {tt : TT} {tk tv : TE} {vs : List Nat} (h : wi σ H fun J H1 => DcG J g tt tk tv vs σ Q H1) : tDc wi g tt tk tv vs σ H Q := h
theorem y_dcG {J : It} {n : Nat} {G : Hp → Prop} {Y : Nat → Hp → V → Hp → Prop} {g : TG} {tt : TT} {tk tv : TE} {vs : List Nat} (w : Walk J n G Y) (S : Sy e B H L) (Pv : Nat → Hp → List (Key × V) → Led → Prop) (h0 : Pv 0 B [] L)
    (hG : ∀ i B1 H1 kvs L1 D, Pv i B1 kvs L1 → Same B B1 → Sy e B1 H1 ((D, .dK kvs) :: L1) → G H1)
    (hs : ∀ i x B1 H1 H1' kvs L1 D (Kp : V → VK) (Kn : Hp → Prop), i < n → Pv i B1 kvs L1 → Same B B1 → e.H D = none → Sy e B1 H1 ((D, .dK kvs) :: L1) → Y i H1 x H1' →
      (∀ k z B4 H4 L4, kvs.length < sizeLine → Same B B4 → Sy e B4 H4 ((D, .dK kvs) :: L4) → Pv (i + 1) B4 (putK kvs k z) L4 → Kp (kV k) z H4) → (∀ B4 H4 L4, Same B B4 → Sy e B4 H4 ((D, .dK kvs) :: L4) → Pv (i + 1) B4 kvs L4 → Kn H4) →
      g x (wipe σ vs) H1' fun σ2 H2 => wipe σ2 vs = wipe σ vs ∧ tt σ2 H2 fun b H3 => if b = true then tk σ2 H3 fun y H4 => tv σ2 H4 (Kp y) else Kn H3)
    (hd : ∀ B1 H1 kvs L1 D, Pv n B1 kvs L1 → Same B B1 → e.H D = none → Sy e B1 H1 ((D, .dK kvs) :: L1) → Q (.ref D) H1) : DcG J g tt tk tv vs σ Q H := by
  intro D hD
  obtain ⟨s1, s2⟩ := S.newM (o := .dK []) hD
  refine ⟨fun i m H1 => m = n - i ∧ i ≤ n ∧ ∃ B1 kvs L1, Sy e B1 H1 ((D, .dK kvs) :: L1) ∧ Same B B1 ∧ Pv i B1 kvs L1, ⟨n, by simp, Nat.zero_le _, B, [], L, s2, Same.refl B, h0⟩, ?_⟩
  rintro i m H1 ⟨rfl, hi, B1, kvs, L1, S1, b1, p1⟩
  have q := hG i B1 H1 kvs L1 D p1 b1 S1
  by_cases hlt : i < n
  · refine .inr ⟨w.goes i H1 hlt q, fun H2 => ∃ B1 kvs L1, Sy e B1 H2 ((D, .dK kvs) :: L1) ∧ Same B B1 ∧ Pv (i + 1) B1 kvs L1, fun H' p' => ⟨n - (i + 1), by omega, rfl, hlt, p'⟩, fun x H' y => ?_⟩
    refine hs i x B1 H1 H' kvs L1 D _ _ hlt p1 b1 s1 S1 (w.yields i H1 x H' hlt q y) (fun k z B4 H4 L4 hl b4 S4 p4 => ?_) (fun B4 H4 L4 b4 S4 p4 => ⟨B4, kvs, L4, S4, b4, p4⟩)
    exact ⟨kvs, k, rfl, S4.g0, hl, B4, _, L4, S4.w0 _, b4, p4⟩
  · have e1 : i = n := by omega
    subst e1
    exact .inl ⟨w.stops H1 q, hd B1 H1 kvs L1 D p1 b1 s1 S1⟩
end
/-! ### the least of a dict's keys -/
section
variable {X : Cx}
def rMinD : List V → Hp → VK → Prop := fun vs H Q => ∃ (d : Addr) (kvs : List (Key × V)) (ns : List Int), vs = [.ref d] ∧ Rd H d (.dK kvs) ∧ kvs.map (·.1) = ns.map .inl ∧ 0 < ns.length ∧ ∀ m, m ∈ ns → (∀ y ∈ ns, m ≤ y) → Q (.int m) H
/-! ### the least of pairs -/
def rMinP (K : PySem.W.Frag) : List V → Hp → VK → Prop := fun vs H Q => ∃ (a : Addr) (xs : List V) (ps : List (Int × Int)), vs = [.ref a] ∧ SqL K H a xs ∧ DpAll K H xs (ps.map fun p => .tuple [.int p.1, .int p.2]) ∧ 0 < ps.length ∧
  ∀ (i : Nat) (x : V) (p : Int × Int), xs[i]? = some x → p ∈ ps → (∀ y ∈ ps, leT p y = true) → Dp K H x (.tuple [.int p.1, .int p.2]) → Q x H
theorem dps_cons {K : PySem.W.Frag} {H : Hp} {α : Type} {enc : α → PyData} : ∀ {xs : List V} {ps : List α}, DpAll K H xs (ps.map enc) → xs.length = ps.length
  | _, [], h => by cases h; rfl
  | _, p :: ps, h => by
    cases h with
    | cons _ t => rw [List.length_cons, List.length_cons, dps_cons t]
/-- min(..): two ints, a list of ints, a dict, a list of pairs -/
def rMinZ (K : PySem.W.Frag) : List V → Hp → VK → Prop := fun xs H Q => rMin2 xs H Q ∨ (rMin K xs H Q ∨ (rMinD xs H Q ∨ rMinP K xs H Q))
/-! ### a dict and {} -/
def rEqDE : R2 := fun x y H Q => ∃ a b kvs, x = .ref a ∧ y = .ref b ∧ Rd H a (.dK kvs) ∧ H b = some (.dK []) ∧ Q (.bl kvs.isEmpty) H
theorem op_eqDE (hu : X.A.units + 64 < cLine) : OpR X (compareOp .Eq) rEqDE := by
  intro pins s σ H x y v u Q I rx ry h
  obtain ⟨a, b, kvs, rfl, rfl, ha, hb, q⟩ := h
  obtain rfl : v = Value.ref a := rx
  obtain rfl : u = Value.ref b := ry
  obtain ⟨_, l1, ws, rel, dd⟩ := dk_rd I.hok ha
  obtain ⟨_, l2, ws2, rel2, dd2⟩ := dk_of I.hok hb
  cases rel2
  have hl : kvs.length = ws.length := Paired.length rel
  have nil : ws.length = ([] : List (Key × Value)).length → PySem.W.KeqHits X.A.in1 s ([] : List (Key × Value)) ws true := fun e => by
    rw [List.eq_nil_of_length_eq_zero e]
    exact .nil
  refine PySem.W.keq_eq (r := true) l1 l2 dd dd2 (by omega) nil ⟨.bl kvs.isEmpty, H, I, ?_, q⟩
  show Value.bool _ = Value.bool kvs.isEmpty
  rw [← hl, Bool.and_true]
  cases kvs <;> rfl
end
end Y
/-! max(list, default=c). -/
namespace Y
open PySem PySem.Spec PyProof.Rows L2
section
variable {X : Cx}
theorem hold_ints {pins : List (Addr × Obj)} {s : Shared} {σ : L2.St} {H : Hp} (I : Inv X pins σ H s) : ∀ {ns : List Int} {us : List Value}, Vals (ns.map V.int) us → PySem.W.HoldAll s.heap us ns
  | [], _, r => by
    cases r
    exact ⟨[], .nil⟩
  | n :: ns, _, r => by
    cases r with
    | cons r1 r2 =>
      obtain ⟨t, rfl⟩ := r1
      exact PySem.W.HoldAll.cons (PySem.W.holds_int n t) (hold_ints I r2)
theorem max_great {x : Int} : ∀ {xs : List Int}, PySem.W.maxOf x xs ∈ x :: xs ∧ ∀ y ∈ x :: xs, y ≤ PySem.W.maxOf x xs := by
  intro xs
  unfold PySem.W.maxOf
  induction xs generalizing x with
  | nil => exact ⟨List.mem_cons_self, fun y hy => by rw [List.mem_singleton.mp hy]; exact Int.le_refl _⟩
  | cons a xs ih =>
    rw [List.foldl_cons]
    by_cases c : PySem.W.DatumOrd.lt x a = true
    · rw [if_pos c]
      have c : x < a := of_decide_eq_true c
      obtain ⟨h1, h2⟩ := ih (x := a)
      refine ⟨List.mem_cons_of_mem _ h1, fun y hy => ?_⟩
      rcases List.mem_cons.mp hy with rfl | hy
      · have h3 := h2 a List.mem_cons_self
        omega
      · exact h2 y hy
    · rw [if_neg c]
      have c : ¬ x < a := fun z => c (decide_eq_true z)
      obtain ⟨h1, h2⟩ := ih (x := x)
      refine ⟨?_, fun y hy => ?_⟩
      · rcases List.mem_cons.mp h1 with h1 | h1
        · rw [h1]; exact List.mem_cons_self
        · exact List.mem_cons_of_mem _ (List.mem_cons_of_mem _ h1)
      · rcases List.mem_cons.mp hy with rfl | hy
        · exact h2 y List.mem_cons_self
        · rcases List.mem_cons.mp hy with rfl | hy
          · have h3 := h2 x List.mem_cons_self
            omega
          · exact h2 y (List.mem_cons_of_mem _ hy)
/-- the greatest of a list of ints, or c -/
def tMaxL (K : PySem.W.Frag) (c : Int) (te : TE) : TE := fun σ H Q => te σ H fun x H1 => ∃ (a : Addr) (ns : List Int), x = .ref a ∧ SqL K H1 a (ns.map V.int) ∧ (ns = [] → Q (.int c) H1) ∧ ∀ m ∈ ns, (∀ z ∈ ns, z ≤ m) → Q (.int m) H1
theorem pe_maxL {K : PySem.W.Frag} {e : Expr} {te : TE} {p kpos pos kp2 : Pos} {c : Int} {j : Nat} (hK : X.K = K) (hg : Gl X "max") (hc : X.calm = true) (hm : X.mg "max" = none) (he : PE X e te) (hu : X.A.units + 64 < cLine)
    (hst : backTo pos (starEach [e] X.env) = (false, eval e X.env) :: backTo pos (starEach [] X.env) := by rfl) :
    PE X (.Call (.Name "max" p) [e] [⟨some "default", .Constant (.int c) j kp2, kpos⟩] pos) (tMaxL K c te) := by
  subst hK
  refine ⟨fun pins s σ H Q I h => ?_⟩
  refine wpAny_Call_Name_kw (ld_blt I hg hm (by decide +kernel : bootBuiltins "max" = some (.builtin "max")) ?_)
  refine PyProof.Rows.callWith_kw ?_ hst (hplain := by rw [hst]; rfl)
  rw [hst]
  refine Calls.spliced_cons (thn (he.run pins s σ H _ I h) fun u s1 ⟨x, H1, I1, rx, a, ns, ex, hs, q0, q1⟩ => ?_)
  subst ex
  obtain rfl : u = Value.ref a := rx
  obtain ⟨its, rv, hl, hz⟩ := I1.list hs
  refine Calls.spliced_nil ?_
  show wpAny _ _ (evalAll [do let v ← eval (.Constant (.int c) j kp2) X.env; standAt pos; pure v]) _ _ _
  refine wpAny_evalAll_cons (wpAny_bind (wpAny_Constant_int (wpAny_bind (wpAny_standAt (wpAny_pure (wpAny_evalAll_nil ?_))))))
  refine PySem.W.max_list_datum_default (xs := ns) (I1.ok.hd hc) hl.isList (by simpa using hold_ints I1 rv) (by have h9 : PySem.W.Datum.depth Int ≤ 60 := (by decide); omega) (fun e0 h' tk hk => ?_) (fun y ys i v h' tk e0 hi hv hk => ?_)
  · exact ⟨.int c, H1, I1.kept hk, ⟨_, rfl⟩, q0 e0⟩
  · have hi : its[i]? = some v := by simpa using hi
    obtain ⟨x, hx, rx⟩ := pr_get rv hi
    rw [List.getElem?_map] at hx
    obtain ⟨n, hn, rfl⟩ := Option.map_eq_some_iff.mp hx
    obtain ⟨t, rfl⟩ := rx
    obtain ⟨bs, r2⟩ := hv
    have e1 := (Reads.unique (Reads.int n t) _ _ r2).1
    have e2 : n = PySem.W.maxOf y ys := PyData.int.inj e1
    obtain ⟨m1, m2⟩ := max_great (x := y) (xs := ys)
    exact ⟨.int n, H1, I1.kept hk, ⟨_, rfl⟩, q1 n (by rw [e2, e0]; exact m1) (by rw [e2, e0]; exact m2)⟩
def MaxLK (K : PySem.W.Frag) (c : Int) (Q : VK) : VK := fun x H1 => ∃ (a : Addr) (ns : List Int), x = .ref a ∧ SqL K H1 a (ns.map V.int) ∧ (ns = [] → Q (.int c) H1) ∧ ∀ m ∈ ns, (∀ z ∈ ns, z ≤ m) → Q (.int m) H1
theorem y_maxL {K : PySem.W.Frag} {c : Int} {te : TE} {σ : L2.St} {H : Hp} {Q : VK} (h : te σ H (MaxLK K c Q)) : tMaxL K c te σ H Q := h
theorem y_maxLK {K : PySem.W.Frag} {c : Int} {H : Hp} {Q : VK} {a : Addr} {ns : List Int} (h : SqL K H a (ns.map V.int)) (k : ∀ m, (m = c ∨ m ∈ ns) → (∀ z ∈ ns, z ≤ m) → Q (.int m) H) : MaxLK K c Q (.ref a) H :=
  ⟨a, ns, rfl, h, fun e => k c (.inl rfl) (fun z hz => by rw [e] at hz; cases hz), fun m hm hg => k m (.inr hm) hg⟩

/-! ### lists + lists, of any standing -/
def rCatS (K : PySem.W.Frag) : R2 := fun x y H Q => ∃ l b xs zs, x = .ref l ∧ y = .ref b ∧ SqL K H l xs ∧ SqL K H b zs ∧ xs.length + zs.length ≤ sizeLine ∧ ∀ p, H p = none → Q (.ref p) (upd H p (.lst (xs ++ zs)))
theorem op_catS {K : PySem.W.Frag} (hK : X.K = K) : OpR X (binaryOp .Add) (rCatS K) := by
  subst hK
  intro pins s σ H x y v u Q I rx ry h
  obtain ⟨l, b, xs, zs, rfl, rfl, hH, hB, hz, q⟩ := h
  cases rx
  cases ry
  obtain ⟨its, r, ⟨⟨cls, dd, data, sl⟩, n, ho, hc, hd, hs⟩, z⟩ := I.list hH
  obtain ⟨its2, r2, ⟨⟨cls2, dd2, data2, sl2⟩, n2, ho2, hc2, hd2, hs2⟩, z2⟩ := I.list hB
  simp only at hc hd hs hc2 hd2 hs2
  subst hc hd hs hc2 hd2 hs2
  have e1 := r.length
  have e2 := r2.length
  have e : its.toArray ++ its2.toArray = (its ++ its2).toArray := by simp
  refine concat_meets ⟨_, ho, rfl⟩ ⟨_, ho2, rfl⟩ noFill_list_add seq_list_add PySem.F.slot_list_add PySem.F.entry_list_add (PySem.F.args_list_add_2 _ _) (list_addW l b its.toArray its2.toArray n n2 _ _ sl sl2 (by rw [List.size_toArray, List.size_toArray]; omega)) ⟨ho, ho2, ?_⟩
  rw [e]
  exact ⟨.ref _, _, I.lnew (t' := s.toks) (r.append r2) (by rw [List.length_append]; omega), rfl, q _ I.fresh⟩
def rAddZ (K : PySem.W.Frag) : R2 := fun x y H Q => rAddU K x y H Q ∨ rCatS K x y H Q
theorem op_addZ {K : PySem.W.Frag} (hK : X.K = K) : OpR X (binaryOp .Add) (rAddZ K) := OpR.or (op_addU hK) (op_catS hK)
section
variable {K : PySem.W.Frag} {e : En} {B H : Hp} {L : Led} {Q : VK} {a b p : Addr} {xs ys : List V}
theorem z_addI {i j : Int} (q : Q (.int (i + j)) H) : rAddZ K (.int i) (.int j) H Q := .inl (y_addI q)
theorem z_addS {i j : Str} (h : i.length + j.length ≤ sizeLine) (q : Q (.str (i ++ j)) H) : rAddZ K (.str i) (.str j) H Q := .inl (y_addS h q)
theorem z_catS (h1 : SqL K H a xs) (h2 : SqL K H b ys) (hl : xs.length + ys.length ≤ sizeLine) (q : NewK (.lst (xs ++ ys)) Q H) : rAddZ K (.ref a) (.ref b) H Q := .inr ⟨a, b, xs, ys, rfl, rfl, h1, h2, hl, q⟩
/-- of data: +, slices, [::-1] -/
theorem z_catC {α : Type} {c : Cod α} {zs ws : List α} (S : Sy e B H L) (h1 : At (.list c) K B (.ref a) zs) (h2 : At (.list c) K B (.ref b) ws) (hl : zs.length + ws.length ≤ 100000) (q : ∀ t B' H', Same B B' → At (.list c) K B' (.ref t) (zs ++ ws) → Sy e B' H' L → Q (.ref t) H') : rAddZ K (.ref a) (.ref b) H Q := by
  obtain ⟨v1, q1, p1⟩ := at_list_ref h1
  obtain ⟨v2, q2, p2⟩ := at_list_ref h2
  have e1 : v1.length = zs.length := p1.length
  have e2 : v2.length = ws.length := p2.length
  refine z_catS (S.l q1) (S.l q2) (lenOk (by omega)) ?_
  refine y_newI S fun t B1 H b1 ht _ S => ?_
  exact q t B1 H b1 (.list (sqL ht) (pr_app (pr_up at_up b1 p1) (pr_up at_up b1 p2))) S
theorem z_slC {α : Type} {c : Cod α} {zs : List α} {hi : Int} (S : Sy e B H L) (h : At (.list c) K B (.ref p) zs) (h0 : 0 ≤ hi) (q : ∀ t B' H', Same B B' → At (.list c) K B' (.ref t) (zs.take hi.toNat) → Sy e B' H' L → Q (.ref t) H') : rSlU K (.ref p) none (some hi) H Q := by
  obtain ⟨v1, q1, p1⟩ := at_list_ref h
  refine y_slL (S.l q1) ?_
  have e : cutV v1 none (some hi) = v1.take hi.toNat := by
    unfold cutV HT.sIx
    simp
    split <;> omega
  rw [e]
  refine y_newI S fun t B1 H b1 ht _ S => ?_
  exact q t B1 H b1 (.list (sqL ht) (pr_take _ (pr_up at_up b1 p1))) S
def RevK (K : PySem.W.Frag) (Q : VK) : VK := fun x H1 => ∃ a xs, x = .ref a ∧ SqL K H1 a xs ∧ ∀ p, H1 p = none → Q (.ref p) (upd H1 p (.lst xs.reverse))
theorem y_rev {te : TE} {σ : L2.St} (h : te σ H (RevK K Q)) : tRevL K te σ H Q := h
theorem pr_rev {α β : Type} {F : α → β → Prop} : ∀ {l : List α} {m : List β}, Paired F l m → Paired F l.reverse m.reverse
  | _, _, .nil => .nil
  | _, _, .cons h t => by
    rw [List.reverse_cons, List.reverse_cons]
    exact pr_app (pr_rev t) (.cons h .nil)
theorem y_revC {α : Type} {c : Cod α} {zs : List α} (S : Sy e B H L) (h : At (.list c) K B (.ref p) zs) (q : ∀ t B' H', Same B B' → At (.list c) K B' (.ref t) zs.reverse → Sy e B' H' L → Q (.ref t) H') : RevK K Q (.ref p) H := by
  obtain ⟨v1, q1, p1⟩ := at_list_ref h
  refine ⟨p, _, rfl, S.l q1, ?_⟩
  refine y_newI S fun t B1 H b1 ht _ S => ?_
  exact q t B1 H b1 (.list (sqL ht) (pr_rev (pr_up at_up b1 p1))) S
end
theorem pe_revK {K : PySem.W.Frag} (hK : X.K = K) {e : Expr} {te : TE} {k : Nat} {p1 p2 p3 pos : Pos} (he : PE X e te) : PE X (.Subscript e (.Slice none none (some (.UnaryOp .USub (.Constant (.int 1) k p1) p2)) p3) pos) (tRevL K te) := hK ▸ pe_revL he
/-! ### lists of three kinds of things -/
/-! ### a list of the base, lent to be changed, and given back as it was -/
def lessA (B : Hp) (a : Addr) : Hp := fun x => if x = a then none else B x
theorem lessA_same {B : Hp} {a : Addr} : lessA B a a = none := if_pos rfl
theorem lessA_ne {B : Hp} {a x : Addr} (h : x ≠ a) : lessA B a x = B x := if_neg h
end
end Y
/-! a, *b = tuple; f[k](..) by a written table of defs; a written dict read. -/
namespace Y
open PySem PySem.Spec PyProof.Rows L2
section
variable {X : Cx}
/-- x, *rest = a tuple: rest is a new list -/
def gStar (K : PySem.W.Frag) (t : TGs) : TG := fun v σ H Q => ∃ a x xs, v = .ref a ∧ SqT K H a (x :: xs) ∧ xs.length < 10000 ∧ ∀ p, H p = none → t [x, .ref p] σ (upd H p (.lst xs)) Q
theorem pg_star {K : PySem.W.Frag} {e1 e2 : Expr} {k : Nat} {t : TGs} {pos sp : Pos} (hK : X.K = K) (hc : X.calm = true) (h : PGs X [e1, e2] t)
    (h1 : assignEach [e1, .Starred e2 sp] X.env = [(false, assign e1 X.env), (true, assign e2 X.env)] := by rfl) (h2 : (assignEach [e1, e2] X.env).map (·.2) = [assign e1 X.env, assign e2 X.env] := by rfl) : PG X (.Tuple [e1, .Starred e2 sp] k pos) (gStar K t) := by
  subst hK
  refine ⟨fun pins s σ H v u Q I r hw => ?_⟩
  obtain ⟨l, x, xs, ev, hq, hl, hw⟩ := hw
  subst ev
  cases r
  obtain ⟨its, rv, ht, hz⟩ := I.tuple hq
  have hh := I.ok.hd hc
  obtain ⟨y, ys, rfl, ry, rys⟩ : ∃ y ys, its = y :: ys ∧ RelV x y ∧ Vals xs ys := by
    cases rv with
    | cons a b => exact ⟨_, _, rfl, a, b⟩
  have hyl := rys.length
  rw [assign_Tuple]
  refine wpAny_bind (wpAny_standAt ?_)
  unfold unpack
  rw [h1]
  show wpAny _ _ (holding [Value.ref l] (unpackItems (.ref l) 2 (some 1)) >>= fun zs => assignInOrder [assign e1 X.env, assign e2 X.env] zs) _ _ _
  have hlt : l ≠ s.heap.objs.size := by obtain ⟨o, ho, _⟩ := ht; exact Nat.ne_of_lt (Heap.lt_size ho)
  have hll : l < s.heap.objs.size := by obtain ⟨o, ho, _⟩ := ht; exact Heap.lt_size ho
  refine wpAny_bind (wpAny_holding ?_)
  unfold unpackItems
  refine wpAny_bind ?_
  unfold notIterableAtAll
  refine wpAny_bind (wpAny_specialOf ht.typeIs slot_tuple_iter.lookup ?_)
  refine wpAny_pure ?_
  simp only [Bool.false_eq_true, if_false]
  refine wpAny_bind (wpAny_holding (iter_tuple ht ?_))
  refine wpAny_bind (wpAny_holding (draw_tuple hlt 1 0 _ _ ⟨_, Heap.get?_push_size _ rfl, rfl, rfl⟩ (ht.push _) (by simp) fun h₁ hit₁ hs₁ => ?_))
  have hl₁ : IsTup h₁ l (y :: ys).toArray := (ht.push _).extBut hs₁.extBut hlt
  rw [Nat.zero_add] at hit₁
  have hit₁' := hit₁
  obtain ⟨oi, hoi, _⟩ := hit₁'
  have hl₁' := hl₁
  obtain ⟨ol, hol, _⟩ := hl₁'
  rw [List.drop_zero]
  show wpAny _ _ (if ([y] : List Value).length < 1 then _ else _) _ _ _
  rw [if_neg (by simp)]
  refine wpAny_bind (wpAny_holding (PySem.W.kun_collect (s := { s with heap := h₁ }) (T := "tuple_iterator") (.inr (.inr (.inr rfl))) (Walks.tuple (A := X.A.in1) hh s.heap.objs.size l hlt (y :: ys).toArray) (fun j u st => st.1.typeIs) (k := 1) (by simp) ⟨hit₁, hl₁⟩ (Heap.lt_size hoi) (Heap.lt_size hol) (fun h₂ tk hk => ?_) (by rw [sizeLine_eq]; simp; omega)))
  show wpAny _ _ (if ys.length < 0 then _ else _) _ _ _
  rw [if_neg (by omega)]
  show wpAny _ _ (newList (ys.take (ys.length - 0)) >>= fun d => pure ([y] ++ [d] ++ ys.drop (ys.length - 0))) _ _ _
  rw [Nat.sub_zero, List.take_length, List.drop_length]
  have he : Heap.ExtBut s.heap.objs.size s.heap h₂ := fun b o hb e => hk b o hb (hs₁.extBut b o hb (Heap.get?_push_of_some _ e))
  have I1 : Inv X pins σ H { s with heap := h₂, toks := tk } := I.kept (t' := tk) fun b o e => he b o (Nat.ne_of_lt (Heap.lt_size e)) e
  refine wpAny_bind (wpAny_newList ?_ (by rw [sizeLine_eq]; omega))
  refine wpAny_pure ?_
  have I2 := I1.lnew (t' := tk) rys (by rw [sizeLine_eq]; omega)
  have := h.run pins _ σ _ [x, .ref h₂.objs.size] [y, .ref h₂.objs.size] Q I2 (.cons ry (.cons rfl .nil)) (hw _ I1.fresh)
  rw [h2] at this
  exact this
theorem y_gstar {K : PySem.W.Frag} {t : TGs} {σ : L2.St} {H : Hp} {N : L2.St → Hp → Prop} {a : Addr} {x : V} {xs : List V} (h : SqT K H a (x :: xs)) (hl : xs.length < 10000) (q : NewK (.lst xs) (fun v H1 => t [x, v] σ H1 N) H) : gStar K t (.ref a) σ H N := ⟨a, x, xs, rfl, h, hl, q⟩
/-- a, b, .. = a list -/
theorem pg_unlK {K : PySem.W.Frag} {es : List Expr} {k : Nat} {t : TGs} {n : Nat} {pos : Pos} (hK : X.K = K) (hc : X.calm = true) (h : PGs X es t)
    (hn : (assignEach es X.env).length = n := by rfl) (hst : (assignEach es X.env).findIdx? (·.1) = none := by rfl) : PG X (.Tuple es k pos) (gUnl K n t) := hK ▸ pg_unl hc h hn hst
theorem y_gunl {K : PySem.W.Frag} {t : TGs} {n : Nat} {σ : L2.St} {H : Hp} {N : L2.St → Hp → Prop} {a : Addr} {xs : List V} (h : SqL K H a xs) (hl : xs.length = n) (q : t xs σ H N) : gUnl K n t (.ref a) σ H N := ⟨a, xs, rfl, h, hl, q⟩
/-! ### a call of what an expression gives: one of some defs -/
def tCallE (S : Addr → Sp → Prop) (tf : TE) (t : TA) : TE := fun σ H Q => tf σ H fun x H1 => ∃ f sp, x = .ref f ∧ S f sp ∧ t σ H1 fun vs H2 => sp vs H2 Q (fun _ _ _ => False)
theorem pe_callE {S : Addr → Sp → Prop} {k : Nat} {fe e : Expr} {es : List Expr} {tf : TE} {t : TA} {pos : Pos} (A : ∀ f sp, S f sp → Held X.prog X.w X.K X.mg X.base k f sp) (hr : Room k X.A) (hf : PE X fe tf) (ha : PA X (e :: es) t)
    (hev : eval (.Call fe (e :: es) [] pos) X.env = (do callWith pos (← eval fe X.env) [] (backTo pos (starEach (e :: es) X.env)) (backToKw pos (keywordEach [] X.env))) := by rfl)
    (he : starEach (e :: es) X.env = (false, eval e X.env) :: starEach es X.env := by rfl) (hpl : (backTo pos (starEach es X.env)).any (·.1) = false := by rfl) : PE X (.Call fe (e :: es) [] pos) (tCallE S tf t) := by
  refine ⟨fun pins s σ H Q I h => ?_⟩
  rw [hev]
  refine wpAny_bind (thn (hf.run pins s σ H _ I h) fun u s1 ⟨v, H1, I1, r1, q1⟩ => ?_)
  obtain ⟨f, sp, rfl, hS, ht⟩ := q1
  obtain ⟨fd, ps, F, hk, hb⟩ := (A f sp hS).ex
  cases r1
  refine PySem.W.callWith_K (h₀ := X.base) I.ok.mod.kin hk (thn (ha.run pos pins s1 σ _ _ I1 ht) fun us s2 ⟨vs, H2, I2, r, q⟩ => ⟨I2.kIn, ?_⟩) he hpl
  have := run_fn (dvs := []) (E := fun _ _ _ => False) F hr hb .nil (fun _ _ _ _ _ _ _ z => z.elim) I2 r (by rw [List.append_nil]; exact q)
  exact this
def CallEK (S : Addr → Sp → Prop) (t : TA) (σ : L2.St) (Q : VK) : VK := fun x H1 => ∃ f sp, x = .ref f ∧ S f sp ∧ t σ H1 fun vs H2 => sp vs H2 Q (fun _ _ _ => False)
theorem y_callE {S : Addr → Sp → Prop} {tf : TE} {t : TA} {σ : L2.St} {H : Hp} {Q : VK} (h : tf σ H (CallEK S t σ Q)) : tCallE S tf t σ H Q := h
/-! ### a written dict -/
def rIxKD (K : PySem.W.Frag) (w : World) : R2 := fun x y H Q => ∃ p z v, x = .ref p ∧ y = .str z ∧ KDct K w p z v ∧ Q v H
theorem ix_kd {K : PySem.W.Frag} {w : World} (hK : X.K = K) (hw : X.w = w) : IxR X (rIxKD K w) := by
  subst hK
  subst hw
  exact ix_kdict
theorem kdct_of {K : PySem.W.Frag} {w : World} {a : Addr} {z : Str} {v : V} (D : ∃ es n, KDict K w a es n) (h : ∃ u, PySem.W.nsIn K a z = some (some u) ∧ RelV v u) : KDct K w a z v := by
  obtain ⟨es, n, D⟩ := D
  obtain ⟨u, h1, h2⟩ := h
  exact ⟨es, n, u, D.at_, D.lit, h1, h2⟩
theorem y_ixKD {K : PySem.W.Frag} {w : World} {H : Hp} {Q : VK} {p : Addr} {z : Str} {v : V} (h : KDct K w p z v) (q : Q v H) : rIxKD K w (.ref p) (.str z) H Q := ⟨p, z, v, rfl, rfl, h, q⟩
/-! ### d.get(k), d.pop(k) -/
def Get1K (ty : TE) (σ : L2.St) (Q : VK) : VK := fun x H1 => ∃ a, x = .ref a ∧ IsD H1 a ∧ ty σ H1 fun y H2 => ∃ o, DGet H2 a y o ∧ Q (o.getD .non) H2
theorem y_dget1 {td ty : TE} {σ : L2.St} {H : Hp} {Q : VK} (h : td σ H (Get1K ty σ Q)) : tDGet1 td ty σ H Q := h
def PopK (ty : TE) (σ : L2.St) (Q : VK) : VK := fun x H1 => ∃ a, x = .ref a ∧ IsD H1 a ∧ ty σ H1 fun y H2 => ∃ kvs k v, H2 a = some (.dK kvs) ∧ y = kV k ∧ valV kvs k = some v ∧ Q v (upd H2 a (.dK (dropK kvs k)))
theorem y_dpop1 {td ty : TE} {σ : L2.St} {H : Hp} {Q : VK} (h : td σ H (PopK ty σ Q)) : tDPop1 td ty σ H Q := h
end
end Y
/-! Histories in plain words: events, what a history has told so far, whether an event can be so. -/
namespace Y
open PySem PySem.Spec PyProof.Rows L2
abbrev Wr := List (Str × Option Int)
structure Op where
  d : Int
  stand : Int
  ws : Wr
structure AS where
  base : Int
  start : List (Str × Int)
  kept : List (Int × Wr)
  opn : List Op
inductive Ev where
  | begin (d : Int)
  | read (d : Int) (key : Str) (w : Option Int)
  | scan (d : Int) (lo hi : Str) (rows : List (Str × Int))
  | put (d : Int) (key : Str) (w : Int)
  | drop (d : Int) (key : Str)
  | back (d n : Int)
  | mark (d n : Int)
  | keep (d p : Int)
  | undo (d : Int)
  | fall (n : Int)
  | raised (n : Int) (rows : List (Str × Int))
  deriving DecidableEq
abbrev wC : Cod (Str × Option Int) := .tup2 .str .optI
abbrev rwC : Cod (List (Str × Int)) := .list (.tup2 .str .int)
def evD : Ev → PyData
  | .begin d => .tuple [.str "begin", .int d]
  | .read d key w => .tuple [.str "read", .int d, .str key, Cod.optI.enc w]
  | .scan d lo hi rows => .tuple [.str "scan", .int d, .str lo, .str hi, rwC.enc rows]
  | .put d key w => .tuple [.str "put", .int d, .str key, .int w]
  | .drop d key => .tuple [.str "drop", .int d, .str key]
  | .back d n => .tuple [.str "back", .int d, .int n]
  | .mark d n => .tuple [.str "mark", .int d, .int n]
  | .keep d p => .tuple [.str "keep", .int d, .int p]
  | .undo d => .tuple [.str "undo", .int d]
  | .fall n => .tuple [.str "fall", .int n]
  | .raised n rows => .tuple [.str "raised", .int n, rwC.enc rows]
def evTag : Ev → Str
  | .begin _ => "begin"
  | .read _ _ _ => "read"
  | .scan _ _ _ _ => "scan"
  | .put _ _ _ => "put"
  | .drop _ _ => "drop"
  | .back _ _ => "back"
  | .mark _ _ => "mark"
  | .keep _ _ => "keep"
  | .undo _ => "undo"
  | .fall _ => "fall"
  | .raised _ _ => "raised"
def evArgs : Ev → List PyData
  | .begin d => [.int d]
  | .read d key w => [.int d, .str key, Cod.optI.enc w]
  | .scan d lo hi rows => [.int d, .str lo, .str hi, rwC.enc rows]
  | .put d key w => [.int d, .str key, .int w]
  | .drop d key => [.int d, .str key]
  | .back d n => [.int d, .int n]
  | .mark d n => [.int d, .int n]
  | .keep d p => [.int d, .int p]
  | .undo d => [.int d]
  | .fall n => [.int n]
  | .raised n rows => [.int n, rwC.enc rows]
theorem evD_eq (e : Ev) : evD e = .tuple (.str (evTag e) :: evArgs e) := by cases e <;> rfl
theorem eqv_rw (a b : List (Str × Int)) : PyData.eqv (rwC.enc a) (rwC.enc b) = true ↔ a = b := rwC.eq a b
theorem eqv_oI (a b : Option Int) : PyData.eqv (Cod.optI.enc a) (Cod.optI.enc b) = true ↔ a = b := Cod.optI.eq a b
theorem evArgs_eq {x y : Ev} (h : evTag x = evTag y) : PyData.eqvAll (evArgs x) (evArgs y) = true ↔ x = y := by
  cases x <;> cases y <;> first
    | (exfalso; revert h; simp only [evTag]; decide)
    | (simp only [evArgs, PyData.eqvAll, PyData.eqv, Bool.and_true, Bool.and_eq_true, decide_eq_true_eq, eqv_rw, eqv_oI, beq_iff_eq, Ev.begin.injEq, Ev.read.injEq, Ev.scan.injEq, Ev.put.injEq, Ev.drop.injEq, Ev.back.injEq, Ev.mark.injEq, Ev.keep.injEq, Ev.undo.injEq, Ev.fall.injEq, Ev.raised.injEq])
theorem rw_pl (a : List (Str × Int)) : (rwC.enc a).plain = true := rwC.pl a
theorem rw_dp (a : List (Str × Int)) : (rwC.enc a).depth ≤ 3 := rwC.dp a
theorem oI_pl (a : Option Int) : (Cod.optI.enc a).plain = true := Cod.optI.pl a
theorem oI_dp (a : Option Int) : (Cod.optI.enc a).depth ≤ 1 := Cod.optI.dp a
def evC : Cod Ev := ⟨evD, 4, fun e => by
    cases e <;> simp only [evD, PyData.plain, PyData.plainAll, rw_pl, oI_pl, Bool.and_true], fun e => by
    cases e with
    | read d key w => have := oI_dp w; simp only [evD, PyData.depth, PyData.depthAll]; omega
    | scan d lo hi rows => have := rw_dp rows; simp only [evD, PyData.depth, PyData.depthAll]; omega
    | raised n rows => have := rw_dp rows; simp only [evD, PyData.depth, PyData.depthAll]; omega
    | _ => simp only [evD, PyData.depth, PyData.depthAll]; omega, fun x y => by
    rw [evD_eq, evD_eq, PyData.eqv, PyData.eqvAll, Bool.and_eq_true]
    constructor
    · rintro ⟨h1, h2⟩
      have h1 : evTag x = evTag y := by simpa [PyData.eqv] using h1
      exact (evArgs_eq h1).mp h2
    · rintro rfl
      exact ⟨by simp [PyData.eqv], (evArgs_eq rfl).mpr rfl⟩⟩
/-! ### what is seen -/
def lookS (t : List (Str × Int)) (key : Str) : Option Int := (t.find? fun p => decide (p.1 = key)).map (·.2)
def wsGet (ws : Wr) (key : Str) (w0 : Option Int) : Option Int := ws.foldl (fun w p => if p.1 = key then p.2 else w) w0
theorem wsGet_append (a b : Wr) (key : Str) (w0 : Option Int) : wsGet (a ++ b) key w0 = wsGet b key (wsGet a key w0) := List.foldl_append
def AS.places (s : AS) : Int := s.base + s.kept.length
def AS.at_ (s : AS) (o : Op) : Nat := (o.stand - s.base).toNat
/-- the whole copy behind so many -/
def AS.sheet (s : AS) (i : Nat) (key : Str) : Option Int := wsGet ((s.kept.take i).flatMap (·.2)) key (lookS s.start key)
def AS.sees (s : AS) (o : Op) (key : Str) : Option Int := wsGet o.ws key (s.sheet (s.at_ o) key)
def AS.find (s : AS) (d : Int) : Option Op := s.opn.find? fun o => decide (o.d = d)
def hasK (ws : Wr) (key : Str) : Bool := ws.any fun p => decide (p.1 = key)
def AS.free (s : AS) (o : Op) (key : Str) : Bool := !((s.kept.drop (s.at_ o)).any fun p => hasK p.2 key) && !(s.opn.any fun q => !decide (q.d = o.d) && hasK q.ws key)
def uniq (l : List Str) : List Str := l.foldr (fun k m => if k ∈ m then m else k :: m) []
theorem uniq_mem {l : List Str} {x : Str} : x ∈ uniq l ↔ x ∈ l := by
  induction l with
  | nil => exact Iff.rfl
  | cons a l ih =>
    show x ∈ (if a ∈ uniq l then uniq l else a :: uniq l) ↔ _
    by_cases c : a ∈ uniq l
    · rw [if_pos c, ih, List.mem_cons]
      exact ⟨.inr, fun h => h.elim (fun z => ih.mp (by rw [z]; exact c)) id⟩
    · rw [if_neg c, List.mem_cons, List.mem_cons, ih]
theorem uniq_nd (l : List Str) : (uniq l).Nodup := by
  induction l with
  | nil => exact List.nodup_nil
  | cons a l ih =>
    show (if a ∈ uniq l then uniq l else a :: uniq l).Nodup
    by_cases c : a ∈ uniq l
    · rw [if_pos c]; exact ih
    · rw [if_neg c]; exact List.nodup_cons.mpr ⟨c, ih⟩
def AS.keys (s : AS) (o : Op) : List Str := s.start.map (·.1) ++ (s.kept.flatMap (·.2)).map (·.1) ++ o.ws.map (·.1)
def AS.scanned (s : AS) (o : Op) (lo hi : Str) : List (Str × Int) := ((uniq (s.keys o)).mergeSort strLe).filterMap fun key => if (!decide (sg key < sg lo) && decide (sg key < sg hi)) = true then (s.sees o key).map fun w => (key, w) else none
structure IsRows (f : Str → Option Int) (lo hi : Str) (rows : List (Str × Int)) : Prop where
  st : rows.Pairwise fun x y => sg x.1 < sg y.1
  mem : ∀ key w, (key, w) ∈ rows ↔ f key = some w ∧ ¬ sg key < sg lo ∧ sg key < sg hi
theorem IsRows.uniq {f : Str → Option Int} {lo hi : Str} {a b : List (Str × Int)} (h : IsRows f lo hi a) (g : IsRows f lo hi b) : a = b := by
  have p : a.Perm b := (List.perm_ext_iff_of_nodup (h.st.imp fun z e => by rw [e] at z; exact List.lt_irrefl _ z) (g.st.imp fun z e => by rw [e] at z; exact List.lt_irrefl _ z)).mpr fun x => by
    obtain ⟨k, w⟩ := x
    rw [h.mem, g.mem]
  exact p.eq_of_pairwise (fun x y _ _ h1 h2 => absurd (List.lt_trans h1 h2) (List.lt_irrefl _)) h.st g.st
theorem strLe_iff {x y : Str} : strLe x y = true ↔ ¬ sg y < sg x := by unfold strLe; simp
theorem sorted_lt {l : List Str} (nd : l.Nodup) (h : l.Pairwise fun x y => strLe x y = true) : l.Pairwise fun x y => sg x < sg y := by
  refine (h.and (List.nodup_iff_pairwise_ne.mp nd)).imp fun {x y} hh => ?_
  obtain ⟨h1, h2⟩ := hh
  rw [strLe_iff] at h1
  by_cases c : sg x < sg y
  · exact c
  · exact absurd (sg_ext (List.le_antisymm (List.not_lt.mp h1) (List.not_lt.mp c))) h2
theorem strLe_trans (x y z : Str) (h1 : strLe x y = true) (h2 : strLe y z = true) : strLe x z = true := by
  unfold strLe at *
  simp only [Bool.not_eq_true', decide_eq_false_iff_not, List.not_lt] at *
  exact List.le_trans h1 h2
theorem strLe_total (x y : Str) : (strLe x y || strLe y x) = true := by
  unfold strLe
  simp only [Bool.or_eq_true, Bool.not_eq_true', decide_eq_false_iff_not, List.not_lt]
  exact List.le_total _ _
theorem wsGet_some {ws : Wr} {key : Str} {w0 : Option Int} (h : ∀ p ∈ ws, p.1 ≠ key) : wsGet ws key w0 = w0 := by
  induction ws generalizing w0 with
  | nil => rfl
  | cons p ws ih =>
    show wsGet ws key (if p.1 = key then p.2 else w0) = w0
    rw [if_neg (h p List.mem_cons_self)]
    exact ih fun q hq => h q (List.mem_cons_of_mem _ hq)
theorem lookS_none {t : List (Str × Int)} {key : Str} (h : ∀ p ∈ t, p.1 ≠ key) : lookS t key = none := by
  unfold lookS
  rw [List.find?_eq_none.mpr fun p hp => by simp [h p hp]]
  rfl
/-- what is seen has its key among these -/
theorem AS.sees_key {s : AS} {o : Op} {key : Str} {w : Int} (h : s.sees o key = some w) : key ∈ s.keys o := by
  refine Classical.byContradiction fun c => ?_
  unfold AS.keys at c
  simp only [List.mem_append, not_or] at c
  obtain ⟨⟨c1, c2⟩, c3⟩ := c
  have h3 : ∀ p ∈ o.ws, p.1 ≠ key := fun p hp e => c3 (List.mem_map.mpr ⟨p, hp, e⟩)
  have h2 : ∀ p ∈ (s.kept.take (s.at_ o)).flatMap (·.2), p.1 ≠ key := fun p hp e => by
    obtain ⟨q, hq, hp⟩ := List.mem_flatMap.mp hp
    exact c2 (List.mem_map.mpr ⟨p, List.mem_flatMap.mpr ⟨q, List.mem_of_mem_take hq, hp⟩, e⟩)
  have h1 : ∀ p ∈ s.start, p.1 ≠ key := fun p hp e => c1 (List.mem_map.mpr ⟨p, hp, e⟩)
  unfold AS.sees AS.sheet at h
  rw [wsGet_some h3, wsGet_some h2, lookS_none h1] at h
  cases h
/-- rows by any list of keys, sorted, that has all that are seen -/
theorem rows_of {f : Str → Option Int} {l : List Str} {lo hi : Str} (hs : l.Pairwise fun x y => sg x < sg y) (ha : ∀ key w, f key = some w → key ∈ l) : IsRows f lo hi (l.filterMap fun key => if (!decide (sg key < sg lo) && decide (sg key < sg hi)) = true then (f key).map fun w => (key, w) else none) := by
  refine ⟨?_, fun key w => ?_⟩
  · rw [List.pairwise_filterMap]
    refine hs.imp fun {x y} h b hb c hc => ?_
    have hb : (if (!decide (sg x < sg lo) && decide (sg x < sg hi)) = true then (f x).map fun w => (x, w) else none) = some b := hb
    have hc : (if (!decide (sg y < sg lo) && decide (sg y < sg hi)) = true then (f y).map fun w => (y, w) else none) = some c := hc
    split at hb
    · split at hc
      · obtain ⟨_, _, rfl⟩ := Option.map_eq_some_iff.mp hb
        obtain ⟨_, _, rfl⟩ := Option.map_eq_some_iff.mp hc
        exact h
      · cases hc
    · cases hb
  · rw [List.mem_filterMap]
    constructor
    · rintro ⟨x, hx, he⟩
      split at he
      · next c =>
        obtain ⟨v, hv, e⟩ := Option.map_eq_some_iff.mp he
        cases e
        simp only [Bool.and_eq_true, Bool.not_eq_true', decide_eq_false_iff_not, decide_eq_true_eq] at c
        exact ⟨hv, c.1, c.2⟩
      · cases he
    · rintro ⟨h1, h2, h3⟩
      refine ⟨key, ha key w h1, ?_⟩
      rw [if_pos (by simp only [Bool.and_eq_true, Bool.not_eq_true', decide_eq_false_iff_not, decide_eq_true_eq]; exact ⟨h2, h3⟩), h1]
      rfl
theorem AS.scanned_is (s : AS) (o : Op) (lo hi : Str) : IsRows (s.sees o) lo hi (s.scanned o lo hi) :=
  rows_of (sorted_lt ((List.mergeSort_perm _ _).nodup_iff.mpr (uniq_nd _)) (List.pairwise_mergeSort strLe_trans strLe_total _)) fun key w h => (List.mergeSort_perm _ _).mem_iff.mpr (uniq_mem.mpr (AS.sees_key h))
/-! ### whether an event can be so, and what it changes -/
def AS.deedB (s : AS) (o : Op) : Ev → Bool
  | .read _ key w => decide (s.sees o key = w)
  | .scan _ lo hi rows => decide (rows = s.scanned o lo hi)
  | .put _ key _ => s.free o key
  | .drop _ key => s.free o key && (s.sees o key).isSome
  | .mark _ n => decide (n = o.ws.length)
  | .back _ n => decide (0 ≤ n) && decide (n ≤ o.ws.length)
  | .keep _ p => decide (p = s.places + 1)
  | .undo _ => true
  | _ => false
def evWho : Ev → Int
  | .begin d => d
  | .read d _ _ => d
  | .scan d _ _ _ => d
  | .put d _ _ => d
  | .drop d _ => d
  | .back d _ => d
  | .mark d _ => d
  | .keep d _ => d
  | .undo d => d
  | .fall n => n
  | .raised n _ => n
def AS.canB (s : AS) (at_ : Nat) : Ev → Bool
  | .raised _ _ => decide (at_ = 0)
  | .fall n => decide (s.base ≤ n) && decide (n ≤ s.places)
  | .begin d => decide (0 < d) && (!(s.find d).isSome && !(s.kept.any fun p => decide (p.1 = d)))
  | e => match s.find (evWho e) with
    | none => false
    | some o => s.deedB o e
def AS.upd (s : AS) (d : Int) (f : Wr → Wr) : List Op := s.opn.map fun o => if o.d = d then { o with ws := f o.ws } else o
def AS.out (s : AS) (d : Int) : List Op := s.opn.filter fun o => !decide (o.d = d)
def AS.happens (s : AS) : Ev → AS
  | .raised n rows => { s with base := n, start := rows }
  | .fall n => { s with kept := s.kept.take (n - s.base).toNat, opn := [] }
  | .begin d => { s with opn := s.opn ++ [⟨d, s.places, []⟩] }
  | .put d key w => { s with opn := s.upd d (· ++ [(key, some w)]) }
  | .drop d key => { s with opn := s.upd d (· ++ [(key, none)]) }
  | .back d n => { s with opn := s.upd d (·.take n.toNat) }
  | .keep d _ => { s with kept := s.kept ++ (match s.find d with | none => [] | some o => [(d, o.ws)]), opn := s.out d }
  | .undo d => { s with opn := s.out d }
  | _ => s
def AS.init : AS := ⟨0, [], [], []⟩
def judged : AS → Nat → List Ev → Option Nat
  | _, _, [] => none
  | s, i, e :: es => if s.canB i e = true then judged (s.happens e) (i + 1) es else some i
theorem judged_append {s : AS} {i : Nat} {a b : List Ev} : judged s i (a ++ b) = match judged s i a with | some j => some j | none => judged (a.foldl AS.happens s) (i + a.length) b := by
  induction a generalizing s i with
  | nil => rfl
  | cons e a ih =>
    show (if s.canB i e = true then judged (s.happens e) (i + 1) (a ++ b) else some i) = match (if s.canB i e = true then judged (s.happens e) (i + 1) a else some i) with | some j => some j | none => _
    by_cases c : s.canB i e = true
    · rw [if_pos c, if_pos c, ih, List.foldl_cons, List.length_cons]
      rw [show i + 1 + a.length = i + (a.length + 1) by omega]
    · rw [if_neg c, if_neg c]
theorem judged_snoc {s : AS} {i : Nat} {a : List Ev} {e : Ev} (h : judged s i a = none) (hc : (a.foldl AS.happens s).canB (i + a.length) e = true) : judged s i (a ++ [e]) = none := by
  rw [judged_append, h]
  show (if (a.foldl AS.happens s).canB (i + a.length) e = true then none else _) = none
  rw [if_pos hc]
/-- events as they are told here -/
structure EvOk (U : List Str) (e : Ev) : Prop where
  rs : ∀ n rows, e = .raised n rows → 0 ≤ n ∧ (rows.map (·.1)).Nodup ∧ ∀ p ∈ rows, p.1 ∈ U
  pk : ∀ d key w, e = .put d key w → key ∈ U
  dk : ∀ d key, e = .drop d key → key ∈ U
/-- what always holds -/
structure AS.Ok (U : List Str) (n : Nat) (s : AS) : Prop where
  nd : (s.opn.map (·.d)).Nodup
  st : ∀ o ∈ s.opn, s.base ≤ o.stand ∧ o.stand ≤ s.places
  sk : (s.start.map (·.1)).Nodup
  su : ∀ p ∈ s.start, p.1 ∈ U
  kl : s.kept.length ≤ n
  ol : s.opn.length ≤ n
  wl : ∀ o ∈ s.opn, o.ws.length ≤ n
  kw : ∀ p ∈ s.kept, p.2.length ≤ n
  wu : ∀ o ∈ s.opn, ∀ p ∈ o.ws, p.1 ∈ U
  ku : ∀ q ∈ s.kept, ∀ p ∈ q.2, p.1 ∈ U
  b0 : 0 ≤ s.base
theorem AS.Ok.init (U : List Str) : AS.Ok U 0 AS.init := ⟨by simp [AS.init], fun o h => (by cases h), by simp [AS.init], fun o h => (by cases h), by simp [AS.init], by simp [AS.init], fun o h => (by cases h), fun o h => (by cases h), fun o h => (by cases h), fun o h => (by cases h), by simp [AS.init]⟩
theorem AS.find_mem {s : AS} {d : Int} {o : Op} (h : s.find d = some o) : o ∈ s.opn ∧ o.d = d := ⟨List.mem_of_find?_eq_some h, of_decide_eq_true (by simpa using List.find?_some h)⟩
theorem AS.find_none {s : AS} {d : Int} (h : s.find d = none) : ∀ o ∈ s.opn, o.d ≠ d := fun o ho e => by
  have := List.find?_eq_none.mp h o ho
  simp [e] at this
theorem upd_ds (s : AS) (d : Int) (f : Wr → Wr) : (s.upd d f).map (·.d) = s.opn.map (·.d) := by
  unfold AS.upd
  rw [List.map_map]
  refine List.map_congr_left fun o _ => ?_
  show (if o.d = d then ({ o with ws := f o.ws } : Op) else o).d = o.d
  split <;> rfl
theorem upd_mem {s : AS} {d : Int} {f : Wr → Wr} {o : Op} (h : o ∈ s.upd d f) : ∃ q ∈ s.opn, o.stand = q.stand ∧ (o.ws = q.ws ∨ o.ws = f q.ws) := by
  obtain ⟨q, hq, rfl⟩ := List.mem_map.mp h
  refine ⟨q, hq, ?_⟩
  split
  · exact ⟨rfl, .inr rfl⟩
  · exact ⟨rfl, .inl rfl⟩
/-- an event that can be so keeps it -/
theorem AS.Ok.step {U : List Str} {n i : Nat} {s : AS} {e : Ev} (h : AS.Ok U n s) (he : EvOk U e) (hc : s.canB i e = true) (hi : i = 0 → s.opn = [] ∧ s.kept = []) : AS.Ok U (n + 1) (s.happens e) := by
  have up : ∀ d (f : Wr → Wr), (∀ ws : Wr, ws.length ≤ n → (f ws).length ≤ n + 1) → (∀ ws : Wr, (∀ p ∈ ws, p.1 ∈ U) → ∀ p ∈ f ws, p.1 ∈ U) → AS.Ok U (n + 1) { s with opn := s.upd d f } := fun d f hf hu =>
    ⟨by show ((s.upd d f).map (·.d)).Nodup; rw [upd_ds]; exact h.nd, fun o ho => by
      obtain ⟨q, hq, e1, _⟩ := upd_mem ho
      rw [e1]
      exact h.st q hq, h.sk, h.su, Nat.le_succ_of_le h.kl, by show (s.upd d f).length ≤ _; unfold AS.upd; rw [List.length_map]; exact Nat.le_succ_of_le h.ol, fun o ho => by
      obtain ⟨q, hq, _, e1⟩ := upd_mem ho
      rcases e1 with e1 | e1
      · rw [e1]; exact Nat.le_succ_of_le (h.wl q hq)
      · rw [e1]; exact hf _ (h.wl q hq), fun p hp => Nat.le_succ_of_le (h.kw p hp), fun o ho => by
      obtain ⟨q, hq, _, e1⟩ := upd_mem ho
      rcases e1 with e1 | e1
      · rw [e1]; exact h.wu q hq
      · rw [e1]; exact hu _ (h.wu q hq), h.ku, h.b0⟩
  have same : AS.Ok U (n + 1) s := ⟨h.nd, h.st, h.sk, h.su, Nat.le_succ_of_le h.kl, Nat.le_succ_of_le h.ol, fun o ho => Nat.le_succ_of_le (h.wl o ho), fun p hp => Nat.le_succ_of_le (h.kw p hp), h.wu, h.ku, h.b0⟩
  have outs : ∀ d, (s.out d).Sublist s.opn := fun d => List.filter_sublist
  cases e with
  | read => exact same
  | scan => exact same
  | mark => exact same
  | put d key w => exact up d _ (fun ws hw => by rw [List.length_append]; exact Nat.succ_le_succ hw) fun ws hw p hp => (List.mem_append.mp hp).elim (hw p) fun z => by rw [List.mem_singleton.mp z]; exact he.pk d key w rfl
  | drop d key => exact up d _ (fun ws hw => by rw [List.length_append]; exact Nat.succ_le_succ hw) fun ws hw p hp => (List.mem_append.mp hp).elim (hw p) fun z => by rw [List.mem_singleton.mp z]; exact he.dk d key rfl
  | back d m => exact up d _ (fun ws hw => by rw [List.length_take]; omega) fun ws hw p hp => hw p (List.mem_of_mem_take hp)
  | undo d => exact ⟨h.nd.sublist ((outs d).map _), fun o ho => h.st o ((outs d).subset ho), h.sk, h.su, same.kl, Nat.le_trans (outs d).length_le same.ol, fun o ho => same.wl o ((outs d).subset ho), same.kw, fun o ho => h.wu o ((outs d).subset ho), h.ku, h.b0⟩
  | keep d p =>
    have hc : (match s.find d with | none => false | some o => s.deedB o (.keep d p)) = true := hc
    cases q : s.find d with
    | none => rw [q] at hc; cases hc
    | some o =>
      have hm := (AS.find_mem q).1
      have e1 : (s.happens (.keep d p)) = { s with kept := s.kept ++ [(d, o.ws)], opn := s.out d } := by
        show ({ s with kept := s.kept ++ (match s.find d with | none => [] | some o => [(d, o.ws)]), opn := s.out d } : AS) = _
        rw [q]
      rw [e1]
      refine ⟨h.nd.sublist ((outs d).map _), fun o' ho => ?_, h.sk, h.su, by show (s.kept ++ [(d, o.ws)]).length ≤ _; rw [List.length_append]; exact Nat.succ_le_succ h.kl, Nat.le_trans (outs d).length_le same.ol, fun o' ho => same.wl o' ((outs d).subset ho), fun r hr => ?_, fun o' ho => h.wu o' ((outs d).subset ho), fun r hr => ?_, h.b0⟩
      · obtain ⟨h1, h2⟩ := h.st o' ((outs d).subset ho)
        refine ⟨h1, ?_⟩
        unfold AS.places at *
        show o'.stand ≤ s.base + ((s.kept ++ [(d, o.ws)]).length : Nat)
        rw [List.length_append, List.length_singleton]
        omega
      · rcases List.mem_append.mp hr with hr | hr
        · exact same.kw r hr
        · rw [List.mem_singleton.mp hr]
          exact Nat.le_succ_of_le (h.wl o hm)
      · rcases List.mem_append.mp hr with hr | hr
        · exact h.ku r hr
        · rw [List.mem_singleton.mp hr]
          exact h.wu o hm
  | fall m =>
    refine ⟨List.nodup_nil, fun o ho => (by cases ho), h.sk, h.su, ?_, Nat.zero_le _, fun o ho => (by cases ho), fun p hp => same.kw p (List.mem_of_mem_take hp), fun o ho => (by cases ho), fun p hp => h.ku p (List.mem_of_mem_take hp), h.b0⟩
    show (s.kept.take _).length ≤ _
    rw [List.length_take]
    exact Nat.le_trans (Nat.min_le_right _ _) same.kl
  | begin d =>
    have hc : (decide (0 < d) && (!(s.find d).isSome && !(s.kept.any fun p => decide (p.1 = d)))) = true := hc
    simp only [Bool.and_eq_true, Bool.not_eq_true'] at hc
    have hn : s.find d = none := by
      cases q : s.find d with
      | none => rfl
      | some o => rw [q] at hc; exact absurd hc.2.1 (by simp)
    refine ⟨?_, fun o ho => ?_, h.sk, h.su, same.kl, by show (s.opn ++ [_]).length ≤ _; rw [List.length_append]; exact Nat.succ_le_succ h.ol, fun o ho => ?_, same.kw, fun o ho => ?_, h.ku, h.b0⟩
    · show ((s.opn ++ [(⟨d, s.places, []⟩ : Op)]).map (·.d)).Nodup
      rw [List.map_append]
      refine List.nodup_append.mpr ⟨h.nd, by simp, fun a ha b hb hab => ?_⟩
      obtain ⟨o, ho, rfl⟩ := List.mem_map.mp ha
      have hb : b = d := List.mem_singleton.mp hb
      exact AS.find_none hn o ho (hab.trans hb)
    · rcases List.mem_append.mp ho with ho | ho
      · exact h.st o ho
      · rw [List.mem_singleton.mp ho]
        show s.base ≤ s.places ∧ s.places ≤ s.places
        unfold AS.places
        omega
    · rcases List.mem_append.mp ho with ho | ho
      · exact same.wl o ho
      · rw [List.mem_singleton.mp ho]; exact Nat.zero_le _
    · rcases List.mem_append.mp ho with ho | ho
      · exact h.wu o ho
      · rw [List.mem_singleton.mp ho]; exact fun p hp => (by cases hp)
  | raised m rows =>
    obtain ⟨h1, h2, h3⟩ := he.rs m rows rfl
    obtain ⟨ho, hk⟩ := hi (of_decide_eq_true hc)
    refine ⟨h.nd, fun o h => ?_, h2, h3, same.kl, same.ol, same.wl, same.kw, h.wu, h.ku, h1⟩
    have h : o ∈ s.opn := h
    rw [ho] at h
    cases h
/-! ### whole copies as dicts -/
def valO : Option V → Option Int
  | some (.int i) => some i
  | _ => none
structure SheetOk (U : List Str) (kvs : List (Key × V)) (f : Str → Option Int) : Prop where
  val : ∀ key, valO (valV kvs (.inr key)) = f key
  key : ∀ kv ∈ kvs, ∃ z, z ∈ U ∧ kv.1 = .inr z ∧ (kv.2 = .non ∨ ∃ i, kv.2 = .int i)
  nd : (kvs.map (·.1)).Nodup
theorem valO_wV (w : Option Int) : valO (some (wV w)) = w := by cases w <;> rfl
theorem putK_keys {kvs : List (Key × V)} {k : Key} {v : V} (nd : (kvs.map (·.1)).Nodup) : ((putK kvs k v).map (·.1)).Nodup := by
  unfold putK
  split
  · rw [List.map_map]
    have : (fun kv : Key × V => kv.1) ∘ (fun kv => if kv.1 = k then (kv.1, v) else kv) = fun kv => kv.1 := by
      funext kv
      show (if kv.1 = k then (kv.1, v) else kv).1 = kv.1
      split <;> rfl
    rw [this]
    exact nd
  · next h =>
    rw [List.map_append]
    refine List.nodup_append.mpr ⟨nd, by simp, fun a ha b hb hab => ?_⟩
    obtain ⟨p, hp, rfl⟩ := List.mem_map.mp ha
    have hb : b = k := List.mem_singleton.mp hb
    exact h (List.any_eq_true.mpr ⟨p, hp, decide_eq_true (hab.trans hb)⟩)
theorem SheetOk.put {U : List Str} {kvs : List (Key × V)} {f : Str → Option Int} (h : SheetOk U kvs f) {z : Str} (hz : z ∈ U) (w : Option Int) : SheetOk U (putK kvs (.inr z) (wV w)) (fun key => if key = z then w else f key) := by
  refine ⟨fun key => ?_, fun kv hkv => ?_, putK_keys h.nd⟩
  · rw [valV_put]
    by_cases c : key = z
    · rw [if_pos (by rw [c]), if_pos c, valO_wV]
    · rw [if_neg (fun e => c (Sum.inr.inj e)), if_neg c]
      exact h.val key
  · have hw : wV w = .non ∨ ∃ i, wV w = .int i := by
      cases w with
      | none => exact .inl rfl
      | some i => exact .inr ⟨i, rfl⟩
    unfold putK at hkv
    split at hkv
    · obtain ⟨p, hp, rfl⟩ := List.mem_map.mp hkv
      obtain ⟨y, hy, e1, e2⟩ := h.key p hp
      by_cases c : p.1 = .inr z
      · rw [if_pos c]
        exact ⟨z, hz, c, hw⟩
      · rw [if_neg c]
        exact ⟨y, hy, e1, e2⟩
    · rcases List.mem_append.mp hkv with hkv | hkv
      · exact h.key kv hkv
      · rw [List.mem_singleton.mp hkv]
        exact ⟨z, hz, rfl, hw⟩
theorem SheetOk.strs {U : List Str} {kvs : List (Key × V)} {f : Str → Option Int} (h : SheetOk U kvs f) : ∃ ks : List Str, kvs.map (·.1) = ks.map Sum.inr ∧ ks.Nodup ∧ ∀ z ∈ ks, z ∈ U := by
  obtain ⟨h1, h2, h3⟩ := h
  clear h1
  induction kvs with
  | nil => exact ⟨[], rfl, List.nodup_nil, fun z hz => (by cases hz)⟩
  | cons kv kvs ih =>
    rw [List.map_cons, List.nodup_cons] at h3
    obtain ⟨ks, e1, e2, e3⟩ := ih (fun p hp => h2 p (List.mem_cons_of_mem _ hp)) h3.2
    obtain ⟨z, hz, e4, _⟩ := h2 kv List.mem_cons_self
    refine ⟨z :: ks, by rw [List.map_cons, List.map_cons, e1, e4], List.nodup_cons.mpr ⟨fun hm => h3.1 ?_, e2⟩, fun y hy => (List.mem_cons.mp hy).elim (fun c => by rw [c]; exact hz) (e3 y)⟩
    rw [e4, e1]
    exact List.mem_map.mpr ⟨z, hm, rfl⟩
theorem nodup_le {α : Type} [DecidableEq α] : ∀ {l m : List α}, l.Nodup → (∀ x ∈ l, x ∈ m) → l.length ≤ m.length
  | [], _, _, _ => Nat.zero_le _
  | x :: l, m, nd, h => by
    obtain ⟨h1, h2⟩ := List.nodup_cons.mp nd
    have hx : x ∈ m := h x List.mem_cons_self
    have := nodup_le (m := m.erase x) h2 fun y hy => (List.mem_erase_of_ne (fun z => h1 (by rw [← z]; exact hy))).mpr (h y (List.mem_cons_of_mem _ hy))
    rw [List.length_erase_of_mem hx] at this
    have : 0 < m.length := List.length_pos_of_mem hx
    rw [List.length_cons]
    omega
theorem SheetOk.len {U : List Str} {kvs : List (Key × V)} {f : Str → Option Int} (h : SheetOk U kvs f) : kvs.length ≤ U.length := by
  obtain ⟨ks, e1, e2, e3⟩ := h.strs
  have := congrArg List.length e1
  rw [List.length_map, List.length_map] at this
  rw [this]
  exact nodup_le e2 e3
theorem SheetOk.congr {U : List Str} {kvs : List (Key × V)} {f g : Str → Option Int} (h : SheetOk U kvs f) (e : ∀ key, f key = g key) : SheetOk U kvs g := ⟨fun key => (h.val key).trans (e key), h.key, h.nd⟩
theorem SheetOk.nil (U : List Str) : SheetOk U [] fun _ => none := ⟨fun _ => rfl, fun kv h => (by cases h), List.nodup_nil⟩
theorem SheetOk.start {U : List Str} {t : List (Str × Int)} (nd : (t.map (·.1)).Nodup) (hu : ∀ p ∈ t, p.1 ∈ U) : SheetOk U (t.map fun p => (.inr p.1, .int p.2)) (lookS t) := by
  refine ⟨fun key => ?_, fun kv hkv => ?_, ?_⟩
  · unfold lookS valV
    rw [List.find?_map]
    cases q : t.find? ((fun kv => decide (kv.1 = Sum.inr key)) ∘ fun p : Str × Int => ((Sum.inr p.1 : Key), V.int p.2)) with
    | none =>
      have : t.find? (fun p => decide (p.1 = key)) = none := by
        rw [List.find?_eq_none] at q ⊢
        intro p hp c
        refine q p hp ?_
        have c : p.1 = key := of_decide_eq_true c
        exact decide_eq_true (congrArg Sum.inr c)
      rw [this]
      rfl
    | some p =>
      have : t.find? (fun p => decide (p.1 = key)) = some p := by
        rw [← q]
        congr 1
        funext x
        show decide (x.1 = key) = decide ((Sum.inr x.1 : Key) = Sum.inr key)
        rw [decide_eq_decide]
        exact ⟨fun z => by rw [z], fun z => Sum.inr.inj z⟩
      rw [this]
      rfl
  · obtain ⟨p, hp, rfl⟩ := List.mem_map.mp hkv
    exact ⟨p.1, hu p hp, rfl, .inr ⟨p.2, rfl⟩⟩
  · rw [List.map_map]
    have : (fun kv : Key × V => kv.1) ∘ (fun p : Str × Int => ((Sum.inr p.1 : Key), V.int p.2)) = Sum.inr ∘ (fun p : Str × Int => p.1) := rfl
    rw [this, ← List.map_map, List.nodup_iff_pairwise_ne, List.pairwise_map]
    exact (List.nodup_iff_pairwise_ne.mp nd).imp fun h e => h (Sum.inr.inj e)
/-- without the drops -/
theorem SheetOk.view {U : List Str} {kvs : List (Key × V)} {f : Str → Option Int} (h : SheetOk U kvs f) : SheetOk U (kvs.filter fun kv => !decide (kv.2 = .non)) f ∧ ∀ kv ∈ kvs.filter (fun kv => !decide (kv.2 = V.non)), ∃ i, kv.2 = .int i := by
  have sub : (kvs.filter fun kv => !decide (kv.2 = V.non)).Sublist kvs := List.filter_sublist
  refine ⟨⟨fun key => ?_, fun kv hkv => h.key kv (sub.subset hkv), h.nd.sublist (sub.map _)⟩, fun kv hkv => ?_⟩
  · rw [← h.val key]
    have nd := h.nd
    clear h sub
    induction kvs with
    | nil => rfl
    | cons kv kvs ih =>
      rw [List.map_cons, List.nodup_cons] at nd
      have ih := ih nd.2
      rw [List.filter_cons]
      by_cases c : kv.1 = .inr key
      · by_cases c2 : kv.2 = V.non
        · rw [if_neg (by simp [c2]), valV_pos c, c2, ih]
          have : valV kvs (.inr key) = none := by
            cases q : valV kvs (.inr key) with
            | none => rfl
            | some v => exact absurd (by rw [c]; exact valV_in q) nd.1
          rw [this]
          rfl
        · rw [if_pos (by simp [c2]), valV_pos c, valV_pos c]
      · by_cases c2 : kv.2 = V.non
        · rw [if_neg (by simp [c2]), valV_neg c]
          exact ih
        · rw [if_pos (by simp [c2]), valV_neg c, valV_neg c]
          exact ih
  · obtain ⟨h1, h2⟩ := List.mem_filter.mp hkv
    obtain ⟨_, _, _, e⟩ := h.key kv h1
    rcases e with e | e
    · rw [e] at h2; simp at h2
    · exact e
end Y
/-! A thing of the ledger, read alone for a while: taken into the base, and given back as it was. -/
namespace Y
open PySem PySem.Spec PyProof.Rows L2
section
variable {e : En} {B B' H H' : Hp} {L L' : Led} {a : Addr} {o : HO} {K : PySem.W.Frag}
theorem Sy.into0 (S : Sy e B H ((a, o) :: L)) : Same B (upd B a o) ∧ Sy ⟨e.M, e.Z, upd e.B a o, e.H⟩ (upd B a o) H L := by
  obtain ⟨q1, q2, q3, q4⟩ := S.led (a, o) List.mem_cons_self
  have hnd := List.nodup_cons.mp (show (a :: L.map (·.1)).Nodup from S.nd)
  have sb : Same B (upd B a o) := fun b x q => by rw [upd_ne (ne_of_none q q2)]; exact q
  refine ⟨sb, fun x y q => ?_, fun x y q => ?_, fun p hp => ?_, hnd.2, S.keep, fun x r1 r2 => ?_, S.there, S.zin, fun x y q hk => ?_, fun p hp => S.nt p (List.mem_cons_of_mem _ hp)⟩
  · have q : upd e.B a o x = some y := q
    by_cases hx : x = a
    · subst hx; rw [upd_same] at q ⊢; exact q
    · rw [upd_ne hx] at q ⊢; exact S.b0 x y q
  · by_cases hx : x = a
    · subst hx; rw [upd_same] at q; cases q; exact .inl q1
    · rw [upd_ne hx] at q; exact S.bh x y q
  · obtain ⟨r1, r2, r3, r4⟩ := S.led p (List.mem_cons_of_mem _ hp)
    have ne : p.1 ≠ a := fun z => hnd.1 (List.mem_map.mpr ⟨p, hp, z⟩)
    exact ⟨r1, by rw [upd_ne ne]; exact r2, r3, r4⟩
  · have r2 : upd e.B a o x = Option.none := r2
    have ne : x ≠ a := fun z => by subst z; rw [upd_same] at r2; cases r2
    rw [upd_ne ne] at r2 ⊢
    exact S.fresh x r1 r2
  · by_cases hx : x = a
    · subst hx; rw [upd_same] at q; cases q; exact .inl q1
    · rw [upd_ne hx] at q; exact S.lk x y q hk
theorem Sy.outof0 (S : Sy e B H ((a, o) :: L)) (hf : ∀ ob u, e.H a ≠ some (.frz ob u)) (b : Same (upd B a o) B') (T : Sy ⟨e.M, e.Z, upd e.B a o, e.H⟩ B' H' L') : Same B (lessA B' a) ∧ Sy e (lessA B' a) H' ((a, o) :: L') := by
  obtain ⟨q1, q2, q3, q4⟩ := S.led (a, o) List.mem_cons_self
  have hBa : B' a = some o := b a o upd_same
  have heB : e.B a = Option.none := by
    cases q : e.B a with
    | none => rfl
    | some x => rw [S.b0 a x q] at q2; cases q2
  have hHa : H' a = some o := by
    rcases T.bh a o hBa with z | ⟨hk, ob, z⟩
    · exact z
    · rcases T.lk a o hBa hk with z2 | z2 | ⟨ob2, u, z2⟩
      · exact z2
      · exact absurd z2 q4
      · exact absurd z2 (hf ob2 u)
  have sb : Same B (lessA B' a) := fun x y q => by
    have ne : x ≠ a := fun z => by subst z; rw [q] at q2; cases q2
    rw [lessA_ne ne]
    exact b x y (by rw [upd_ne ne]; exact q)
  refine ⟨sb, S.b0.trans sb, fun x y q => ?_, fun p hp => ?_, ?_, fun x y h1 h2 q => T.keep x y h1 h2 q, fun x r1 r2 => ?_, T.there, T.zin, fun x y q hk => ?_, fun p hp => ?_⟩
  · have ne : x ≠ a := fun z => by subst z; rw [lessA_same] at q; cases q
    rw [lessA_ne ne] at q
    exact T.bh x y q
  · rcases List.mem_cons.mp hp with rfl | hp
    · exact ⟨hHa, lessA_same, q3, q4⟩
    · obtain ⟨r1, r2, r3, r4⟩ := T.led p hp
      have ne : p.1 ≠ a := fun z => by rw [z, hBa] at r2; cases r2
      exact ⟨r1, by rw [lessA_ne ne]; exact r2, r3, r4⟩
  · rw [List.map_cons]
    refine List.nodup_cons.mpr ⟨fun hm => ?_, T.nd⟩
    obtain ⟨q, hq, e1⟩ := List.mem_map.mp hm
    have := (T.led q hq).2.1
    rw [show q.1 = a from e1, hBa] at this
    cases this
  · by_cases hx : x = a
    · subst hx; exact .inl lessA_same
    · rw [lessA_ne hx]
      exact T.fresh x r1 (by show upd e.B a o x = Option.none; rw [upd_ne hx]; exact r2)
  · have ne : x ≠ a := fun z => by subst z; rw [lessA_same] at q; cases q
    rw [lessA_ne ne] at q
    exact T.lk x y q hk
  · rcases List.mem_cons.mp hp with rfl | hp
    · exact S.nt _ List.mem_cons_self
    · exact T.nt p hp
end
section
variable {B : Hp} {a p : Addr} {kvs : List (Key × V)} {K : PySem.W.Frag} {xs : List V} {v : V}
theorem lessA_rd {u : HO} (hB : B a = some (.dK kvs)) (hu : ¬ Dk u) (h : Rd B p u) : Rd (lessA B a) p u := by
  rcases h with h | ⟨ob, h⟩
  · have ne : p ≠ a := fun z => by subst z; rw [hB] at h; cases h; exact hu trivial
    exact .inl (by rw [lessA_ne ne]; exact h)
  · have ne : p ≠ a := fun z => by subst z; rw [hB] at h; cases h
    exact .inr ⟨ob, by rw [lessA_ne ne]; exact h⟩
theorem lessA_l (hB : B a = some (.dK kvs)) (h : SqL K B p xs) : SqL K (lessA B a) p xs := h.imp (lessA_rd hB fun z => z) id
theorem lessA_t (hB : B a = some (.dK kvs)) (h : SqT K B p xs) : SqT K (lessA B a) p xs := h.imp (lessA_rd hB fun z => z) id
mutual
theorem lessA_d (hB : B a = some (.dK kvs)) : ∀ {d : PyData} {v : V}, Dp K B v d → Dp K (lessA B a) v d
  | _, _, .non => .non
  | _, _, .bl b => .bl b
  | _, _, .int i => .int i
  | _, _, .str x => .str x
  | _, _, .lst r q => .lst (lessA_l hB r) (lessA_ds hB q)
  | _, _, .tup r q => .tup (lessA_t hB r) (lessA_ds hB q)
theorem lessA_ds (hB : B a = some (.dK kvs)) : ∀ {ds : List PyData} {vs : List V}, DpAll K B vs ds → DpAll K (lessA B a) vs ds
  | _, _, .nil => .nil
  | _, _, .cons r q => .cons (lessA_d hB r) (lessA_ds hB q)
end
end
/-- a dict of the ledger is walked -/
theorem y_lockLS {e : En} {B H : Hp} {L : Led} {d : Addr} {σ : L2.St} {t : TS} {nx bk ct : L2.St → Hp → Prop} {rt : VK} {kvs : List (Key × V)} (S : Sy e B H ((d, .dK kvs) :: L)) (hf : ∀ ob u, e.H d ≠ some (.frz ob u))
    (k : ∀ od H1 e1 (nx' : L2.St → Hp → Prop) (rt' : VK) (bk' ct' : L2.St → Hp → Prop), e1.H = e.H → H1 d = some (.frz od (.dK kvs)) → Sy e1 (upd B d (.dK kvs)) H1 L → (∀ B' H' L', Sy e1 B' H' L' → H' d = some (.frz od (.dK kvs))) →
      (∀ σ' B' H' L', Same (upd B d (.dK kvs)) B' → Sy e1 B' H' L' → (∀ H2, Same B (lessA B' d) → Sy e (lessA B' d) H2 ((d, .dK kvs) :: L') → nx σ' H2) → nx' σ' H') →
      (∀ v B' H' L', Same (upd B d (.dK kvs)) B' → Sy e1 B' H' L' → (∀ H2, Same B (lessA B' d) → Sy e (lessA B' d) H2 ((d, .dK kvs) :: L') → rt v H2) → rt' v H') → t ⟨nx', rt', bk', ct'⟩ σ H1) : tLock t ⟨nx, rt, bk, ct⟩ σ H := by
  have hH : H d = some (.dK kvs) := S.g0
  obtain ⟨_, S1⟩ := S.into0
  refine ⟨d, .dK kvs, hH, trivial, fun od => ?_⟩
  refine k od _ { (⟨e.M, e.Z, upd e.B d (.dK kvs), e.H⟩ : En) with Z := (d, od, .dK kvs) :: e.Z } _ _ _ _ rfl upd_same (S1.lock upd_same trivial hH) (fun B' H' L' T => T.zin (d, od, .dK kvs) List.mem_cons_self) (fun σ' B' H' L' b T q => ?_) (fun v B' H' L' b T q => ?_)
  · obtain ⟨h1, h2⟩ := S1.unlock upd_same trivial hH b T
    obtain ⟨h3, h4⟩ := S.outof0 hf b h2
    exact ⟨h1, q _ h3 h4⟩
  · obtain ⟨h1, h2⟩ := S1.unlock upd_same trivial hH b T
    obtain ⟨h3, h4⟩ := S.outof0 hf b h2
    exact ⟨h1, q _ h3 h4⟩
/-- sorted(d), text keys -/
theorem y_sortDS {P : Program} {w : World} {K : PySem.W.Frag} {H : Hp} {Q : VK} {d : Addr} {kvs : List (Key × V)} {ks : List Str} (h : Rd H d (.dK kvs)) (hk : kvs.map (·.1) = ks.map Sum.inr) (q : NewK (.lst ((ks.mergeSort strLe).map V.str)) Q H) : rSortW P w K [.ref d] H Q := by
  refine .inl (.inr (.inr (.inl ⟨d, kvs, rfl, h, ?_, ?_⟩)))
  · have e : kvs.map (fun p => keyD p.1) = ks.map PyData.str := by
      rw [show (fun p : Key × V => keyD p.1) = keyD ∘ (·.1) from rfl, ← List.map_map, hk, List.map_map]
      rfl
    rw [e]
    intro x hx y hy
    obtain ⟨a, _, rfl⟩ := List.mem_map.mp hx
    obtain ⟨b, _, rfl⟩ := List.mem_map.mp hy
    simp [PySem.W.alike]
  · have e1 : ((kvs.map (·.1)).mergeSort fun k l => leD (keyD k) (keyD l)).map kV = (ks.mergeSort strLe).map V.str := by
      rw [hk, ← List.map_mergeSort (r := strLe) (f := fun z : Str => (Sum.inr z : Key)) (fun x _ y _ => (leD_str x y).symm), List.map_map]
      rfl
    rw [e1]
    exact q
theorem Sy.ledM {e : En} {B H : Hp} {L : Led} {a : Addr} {o : HO} (S : Sy e B H L) (h : (a, o) ∈ L) : H a = some o := (S.led _ h).1
theorem Sy.ledM1 {e : En} {B H : Hp} {L : Led} {a : Addr} {o : HO} {q : Addr × HO} (S : Sy e B H (q :: L)) (h : (a, o) ∈ L) : H a = some o := (S.led _ (List.mem_cons_of_mem _ h)).1
theorem Sy.ledM2 {e : En} {B H : Hp} {L : Led} {a : Addr} {o : HO} {q r : Addr × HO} (S : Sy e B H (q :: r :: L)) (h : (a, o) ∈ L) : H a = some o := (S.led _ (List.mem_cons_of_mem _ (List.mem_cons_of_mem _ h))).1
theorem Sy.ledM3 {e : En} {B H : Hp} {L : Led} {a : Addr} {o : HO} {q r t : Addr × HO} (S : Sy e B H (q :: r :: t :: L)) (h : (a, o) ∈ L) : H a = some o := (S.led _ (List.mem_cons_of_mem _ (List.mem_cons_of_mem _ (List.mem_cons_of_mem _ h)))).1
end Y
/-! Slices of tuples, whole or not; sorted(d) of int keys. -/
namespace Y
open PySem PySem.Spec PyProof.Rows L2
section
variable {X : Cx} {K : PySem.W.Frag} {e : En} {B B' H : Hp} {L : Led} {Q : VK} {a : Addr} {xs : List V}
theorem sl_tupAK (hK : X.K = K) : SlR X (rSlA K) := hK ▸ sl_tupA
theorem y_slTA {lo hi : Option Int} (S : Sy e B H L) (h : SqT K B a xs) (q : ∀ t B' H', Same B B' → SqT K B' t (cutV xs lo hi) → Sy e B' H' L → Q (.ref t) H') : rSlA K (.ref a) lo hi H Q := by
  refine ⟨a, xs, rfl, S.t h, fun hw => ?_, fun hw => ?_⟩
  · have e1 : cutV xs lo hi = xs := by
      unfold cutV
      rw [hw.1, hw.2]
      simp
    exact q a B H (Same.refl _) (by rw [e1]; exact h) S
  · refine y_newI S fun t B1 H1 b1 ht _ S => ?_
    exact q t B1 H1 b1 (sqT ht) S
/-- sorted(d), int keys -/
theorem y_sortDI {P : Program} {w : World} {d : Addr} {kvs : List (Key × V)} {ks : List Int} (h : Rd H d (.dK kvs)) (hk : kvs.map (·.1) = ks.map Sum.inl) (q : ∀ ns : List Int, ns.Perm ks → ns.Pairwise (· ≤ ·) → NewK (.lst (ns.map V.int)) Q H) : rSortW P w K [.ref d] H Q := by
  have hle : ∀ x y : Int, leD (keyD (.inl x)) (keyD (.inl y)) = decide (x ≤ y) := fun x y => by
    show (!PySem.W.dataLt (.int y) (.int x)) = decide (x ≤ y)
    rw [PySem.W.dataLt_int]
    by_cases c : x ≤ y
    · rw [decide_eq_true c, decide_eq_false (by omega)]; rfl
    · rw [decide_eq_false c, decide_eq_true (by omega)]; rfl
  refine .inl (.inr (.inr (.inl ⟨d, kvs, rfl, h, ?_, ?_⟩)))
  · have e : kvs.map (fun p => keyD p.1) = ks.map PyData.int := by
      rw [show (fun p : Key × V => keyD p.1) = keyD ∘ (·.1) from rfl, ← List.map_map, hk, List.map_map]
      rfl
    rw [e]
    intro x hx y hy
    obtain ⟨a, _, rfl⟩ := List.mem_map.mp hx
    obtain ⟨b, _, rfl⟩ := List.mem_map.mp hy
    simp [PySem.W.alike]
  · have e1 : ((kvs.map (·.1)).mergeSort fun k l => leD (keyD k) (keyD l)).map kV = (ks.mergeSort fun x y => decide (x ≤ y)).map V.int := by
      rw [hk, ← List.map_mergeSort (r := fun x y : Int => decide (x ≤ y)) (f := fun z : Int => (Sum.inl z : Key)) (fun x _ y _ => (hle x y).symm), List.map_map]
      rfl
    rw [e1]
    refine q _ (List.mergeSort_perm _ _) ?_
    refine (List.pairwise_mergeSort (le := fun x y : Int => decide (x ≤ y)) (fun a b c h1 h2 => ?_) (fun a b => ?_) ks).imp fun h => of_decide_eq_true h
    · have h1 := of_decide_eq_true h1
      have h2 := of_decide_eq_true h2
      exact decide_eq_true (by omega)
    · by_cases c : a ≤ b
      · rw [decide_eq_true c]; rfl
      · rw [decide_eq_true (p := b ≤ a) (by omega)]; simp
end
end Y
namespace K59
open PySem PySem.Spec PyProof.Rows L2 Y
local macro_rules | `(tactic| walk_at "asm") => `(tactic| assumption)
local macro_rules | `(tactic| walk_at "up") => `(tactic| first
  | assumption
  | exact Same.refl _
  | ((refine' Same.trans ?_ (by assumption)); walk_at "up"))
local macro_rules | `(tactic| walk_at "led") => `(tactic| first
  | exact Sy.at (by assumption) 0 rfl
  | exact Sy.at (by assumption) 1 rfl
  | exact Sy.at (by assumption) 2 rfl
  | exact Sy.at (by assumption) 3 rfl
  | exact Sy.at (by assumption) 4 rfl
  | exact Sy.at (by assumption) 5 rfl
  | exact Sy.at (by assumption) 6 rfl
  | exact Sy.at (by assumption) 7 rfl
  | exact Sy.at (by assumption) 8 rfl
  | exact Sy.at (by assumption) 9 rfl
  | exact Sy.at (by assumption) 10 rfl
  | exact Sy.at (by assumption) 11 rfl
  | exact Sy.ledM (by assumption) (by assumption)
  | exact Sy.ledM1 (by assumption) (by assumption)
  | exact Sy.ledM2 (by assumption) (by assumption)
  | exact Sy.ledM3 (by assumption) (by assumption))
/- a fact of data, lifted -/
local macro_rules | `(tactic| walk_at "at") => `(tactic| first
  | assumption
  | exact At.int
  | exact At.str
  | exact At.bool
  | ((refine' At.up ?hs ?hf); (case hf => assumption); (case hs => walk_at "up")))
local macro_rules | `(tactic| walk_at "pr") => `(tactic| first
  | assumption
  | ((refine' pr_up at_up ?hs ?hf); (case hf => assumption); (case hs => walk_at "up")))
local macro_rules | `(tactic| walk_at "var") => `(tactic| ((with_reducible refine' y_var ?hv ?_); (case hv => exact rfl)))
/- facts of lists: the ledger, then the base -/
local macro_rules | `(tactic| walk_at "sq") => `(tactic| first
  | exact sqL (by walk_at "led")
  | exact Sy.l (by assumption) (by assumption)
  | exact Sy.l (by assumption) (sqL (by assumption))
  | ((refine' Sy.l (by assumption) (up_l ?hs ?hf)); (case hf => assumption); (case hs => walk_at "up"))
  | ((refine' Sy.l (by assumption) (sqL (up_o ?hs ?hf))); (case hf => assumption); (case hs => walk_at "up")))
local macro_rules | `(tactic| walk_at "sqt") => `(tactic| first
  | exact Sy.t (by assumption) (by assumption)
  | exact Sy.t (by assumption) (sqT (by assumption))
  | ((refine' Sy.t (by assumption) (up_t ?hs ?hf)); (case hf => assumption); (case hs => walk_at "up"))
  | ((refine' Sy.t (by assumption) (sqT (up_o ?hs ?hf))); (case hf => assumption); (case hs => walk_at "up")))
local macro_rules | `(tactic| walk_at "y") => `(tactic| first
  | with_reducible refine y_seq ?_
  | with_reducible refine y_asg ?_
  | with_reducible refine y_gname ?_
  | with_reducible refine y_ret ?_
  | with_reducible refine y_drop ?_
  | with_reducible refine y_next ?_
  | walk_at "var"
  | with_reducible refine y_c ?_
  | with_reducible refine y_op ?_
  | with_reducible refine y_un ?_
  | with_reducible refine y_nil ?_
  | with_reducible refine y_cons ?_
  | with_reducible refine y_call ?_
  | with_reducible refine y_cb ?_
  | with_reducible refine y_test ?_
  | with_reducible refine y_tB ?_
  | with_reducible refine y_blK ?_
  | with_reducible refine y_and ?_
  | with_reducible refine y_or ?_
  | with_reducible refine y_not ?_
  | with_reducible refine y_andV ?_
  | with_reducible refine y_andK ?_
  | with_reducible refine y_orV ?_
  | with_reducible refine y_orK ?_
  | with_reducible refine y_notV ?_
  | with_reducible refine y_notK ?_
  | with_reducible refine y_chain ?_
  | with_reducible refine y_chK ?_
  | with_reducible refine y_ifE ?_
  | with_reducible refine y_addI ?_
  | with_reducible refine z_addI ?_
  | with_reducible refine y_subI ?_
  | with_reducible refine y_negI ?_
  | with_reducible refine y_ltI ?_
  | with_reducible refine y_leI ?_
  | with_reducible refine y_gtI ?_
  | with_reducible refine y_geI ?_
  | with_reducible refine z_eqI ?_
  | with_reducible refine z_neI ?_
  | with_reducible refine z_eqS ?_
  | with_reducible refine z_neS ?_
  | with_reducible refine z_neNI ?_
  | with_reducible refine z_neNN ?_
  | with_reducible refine z_neB ?_
  | with_reducible refine z_eqB ?_
  | with_reducible refine z_inSg ?_
  | with_reducible refine z_notInSg ?_
  | ((with_reducible refine' y_ixDS ?hq ?hl ?_); (case hq => walk_at "led"); (case hl => exact rfl))
  | with_reducible refine y_itup ?_
  | ((with_reducible refine' y_tupK ?hq ?_); (case hq => walk_at "sqt"))
  | with_reducible refine y_pcons ?_
  | with_reducible refine y_pnil ?_
  | with_reducible refine y_fld ?_
  | ((with_reducible refine' y_fldK ?hq ?hl ?_); (case hq => walk_at "led"); (case hl => exact rfl))
  | with_reducible refine y_sfld ?_
  | with_reducible refine y_afld ?_
  | with_reducible refine y_meth ?_
  | with_reducible refine y_methN ?_
  | ((with_reducible refine' y_mthK ?hq ?hl ?_); (case hq => walk_at "led"); (case hl => exact rfl))
  | ((with_reducible refine' y_mthNK ?hq ?hl ?_); (case hq => walk_at "led"); (case hl => exact rfl))
  | with_reducible refine y_make ?_
  | with_reducible refine y_makeN ?_
  | with_reducible refine y_m0 ?_
  | with_reducible refine y_m1 ?_
  | with_reducible refine And.intro ⟨_, rfl⟩ ?_
  | ((with_reducible refine' y_lenS ?hq ?_); (case hq => exact lenOk (by first | omega | decide)))
  | ((with_reducible refine' y_slS ?hq ?_); (case hq => exact lenOk (by first | omega | decide)))
  | ((with_reducible refine' y_addS ?hq ?_); (case hq => exact lenOk (by first | omega | decide)))
  | ((with_reducible refine' z_addS ?hq ?_); (case hq => exact lenOk (by first | omega | decide)))
  | with_reducible refine y_rev ?_
  | with_reducible refine y_maxL ?_
  | with_reducible refine y_isN0 ?_
  | with_reducible refine y_isN1 ?_
  | with_reducible refine y_isN2 ?_
  | with_reducible refine y_notN0 ?_
  | with_reducible refine y_notN1 ?_
  | with_reducible refine y_notN2 ?_
  | with_reducible refine y_true ?_
  | with_reducible refine y_false ?_
  | with_reducible refine y_notT ?_
  | with_reducible refine y_notF ?_
  | with_reducible refine y_max2 ?_
  | with_reducible refine y_min2 ?_
  | with_reducible refine y_gsub ?_
  | with_reducible refine y_for ?_
  | with_reducible refine y_lc ?_
  | with_reducible refine y_tup ?_
  | with_reducible refine y_lst ?_
  | with_reducible refine y_bm ?_
  | with_reducible refine y_bm0 ?_
  | with_reducible refine y_sl ?_
  | with_reducible refine y_part ?_
  | with_reducible refine y_ptK ?_
  | with_reducible refine y_nopart ?_
  | ((with_reducible refine' y_mulZ ?hc ?_); (case hc => first | exact .inl ⟨by omega, by omega⟩ | exact .inr ⟨by omega, by omega⟩))
  | with_reducible refine y_exF ?_
  | with_reducible refine y_ost ?_
  | with_reducible refine y_mkX ?_
  | ((with_reducible refine' y_mulI ?hc ?_); (case hc => first | exact .inl ⟨by omega, by omega⟩ | exact .inr ⟨by omega, by omega⟩))
  | ((with_reducible refine' y_modI ?hc ?_); (case hc => omega))
  | ((with_reducible refine' y_ixL ?hq ?ha ?_); (case hq => walk_at "sq"); (case ha => exact rfl))
  | ((with_reducible refine' y_ixT ?hq ?ha ?_); (case hq => walk_at "sqt"); (case ha => exact rfl))
  | ((with_reducible refine' y_lenL ?hq ?_); (case hq => walk_at "sq"))
  | ((with_reducible refine' y_lenT ?hq ?_); (case hq => walk_at "sqt"))
  | with_reducible refine y_dc ?_
  | with_reducible refine y_par ?_
  | with_reducible refine y_parK ?_
  | with_reducible refine y_par3 ?_
  | with_reducible refine y_par3K ?_
  | with_reducible refine y_setd ?_
  | with_reducible refine y_dget1 ?_
  | with_reducible refine y_dpop1 ?_
  | with_reducible refine y_callE ?_
  | ((with_reducible refine' y_gunl ?hq ?hl ?_); (case hq => walk_at "sq"); (case hl => exact rfl))
  | with_reducible refine y_frz ?_
  | with_reducible refine y_sortk ?_
  | with_reducible refine y_izip ?_
  | with_reducible refine y_ienum ?_
  | with_reducible refine y_leS ?_
  | with_reducible refine y_ltS ?_
  | ((with_reducible refine' y_gtup ?hq ?hl ?_); (case hq => walk_at "sqt"); (case hl => exact rfl))
  | with_reducible refine y_dnewT ?_
  | with_reducible refine y_dnew ?_
  | with_reducible refine y_callN ?_
  | with_reducible refine y_callNK rfl rfl ?_
  | with_reducible refine y_ikeys ?_
  | with_reducible refine y_gcons ?_
  | with_reducible refine y_gnil ?_
  | with_reducible refine y_irng3 ?_
  | with_reducible refine z_neIN ?_
  | with_reducible refine y_intB ?_
  | with_reducible refine y_intI ?_
  | with_reducible refine y_ivals ?_
  | with_reducible refine y_iitems ?_
  | with_reducible refine y_yes ?_
  | ((with_reducible refine And.intro ?hw ?_); (case hw => (show wipe _ _ = wipe _ _); exact rfl))
  | with_reducible refine y_irng1 ?_
  | with_reducible refine y_irng2 ?_
  | with_reducible refine y_ilist ?_
  | with_reducible refine y_istr ?_
  | with_reducible refine y_strK ?_
  | ((with_reducible refine' y_rngK ?h1 ?h2 ?_); (case h1 => omega); (case h2 => omega))
  | ((with_reducible refine' y_rngK2 ?h1 ?h2 ?h3 ?h4 ?_); (case h1 => omega); (case h2 => omega); (case h3 => omega); (case h4 => omega))
  | ((with_reducible refine' y_lstK ?hq ?_); (case hq => walk_at "sq"))
  | ((with_reducible refine And.intro (lenOk ?hl) ?_); (case hl => exact Nat.le_of_ble_eq_true rfl))
  | ((with_reducible refine' And.intro (tyL ?hq) ?_); (case hq => walk_at "led")))
local macro_rules | `(tactic| walk_at "yy") => `(tactic| repeat (first | walk_at "y" | with_reducible refine y_ifS ?_))
/- the walk ahead of an if -/
local macro_rules | `(tactic| walk_at "yn") => `(tactic| repeat walk_at "y")

section
variable {P : Program} {w : World} {K : PySem.W.Frag} {mg : Str → Option Value} {base : Heap}
def topS (i : Nat) : Stmt := PySem.Challenge.pw_slotkeep_k59_histories_that_cannot_be.main.body.getD i (.Pass ⟨0, 0, 0, 0⟩)
abbrev s_Witness___init__ : Stmt := inClass (topS 1) 0
theorem sc_Witness___init__ : FnScope ["self"] ["self"] (defScope s_Witness___init__) := ⟨rfl, rfl, rfl, by decide +kernel, rfl, by decide +kernel, by decide +kernel⟩
abbrev s_Witness_last_place : Stmt := inClass (topS 1) 1
theorem sc_Witness_last_place : FnScope ["self"] ["self"] (defScope s_Witness_last_place) := ⟨rfl, rfl, rfl, by decide +kernel, rfl, by decide +kernel, by decide +kernel⟩
abbrev s_Doer___init__ : Stmt := inClass (topS 2) 0
theorem sc_Doer___init__ : FnScope ["self", "since"] ["self", "since"] (defScope s_Doer___init__) := ⟨rfl, rfl, rfl, by decide +kernel, rfl, by decide +kernel, by decide +kernel⟩
abbrev s_view_of : Stmt := topS 3
theorem sc_view_of : FnScope ["witness", "doer", "found", "key", "worth"] ["witness", "doer"] (defScope s_view_of) := ⟨rfl, rfl, rfl, by decide +kernel, rfl, by decide +kernel, by decide +kernel⟩
abbrev s_is_free : Stmt := topS 4
theorem sc_is_free : FnScope ["witness", "dealing", "key", "one", "doer", "later", "name", "worth", "keys"] ["witness", "dealing", "key"] (defScope s_is_free) := ⟨rfl, rfl, rfl, by decide +kernel, rfl, by decide +kernel, by decide +kernel⟩
abbrev s_can_begin : Stmt := topS 5
theorem sc_can_begin : FnScope ["witness", "rest", "dealing", "one", "keys"] ["witness", "rest"] (defScope s_can_begin) := ⟨rfl, rfl, rfl, by decide +kernel, rfl, by decide +kernel, by decide +kernel⟩
abbrev s_can_read : Stmt := topS 6
theorem sc_can_read : FnScope ["witness", "rest", "dealing", "key", "worth"] ["witness", "rest"] (defScope s_can_read) := ⟨rfl, rfl, rfl, by decide +kernel, rfl, by decide +kernel, by decide +kernel⟩
abbrev s_can_scan : Stmt := topS 7
theorem sc_can_scan : FnScope ["witness", "rest", "dealing", "low", "high", "rows", "view", "key"] ["witness", "rest"] (defScope s_can_scan) := ⟨rfl, rfl, rfl, by decide +kernel, rfl, by decide +kernel, by decide +kernel⟩
abbrev s_can_put : Stmt := topS 8
theorem sc_can_put : FnScope ["witness", "rest", "dealing", "key", "worth"] ["witness", "rest"] (defScope s_can_put) := ⟨rfl, rfl, rfl, by decide +kernel, rfl, by decide +kernel, by decide +kernel⟩
abbrev s_can_drop : Stmt := topS 9
theorem sc_can_drop : FnScope ["witness", "rest", "dealing", "key"] ["witness", "rest"] (defScope s_can_drop) := ⟨rfl, rfl, rfl, by decide +kernel, rfl, by decide +kernel, by decide +kernel⟩
abbrev s_can_mark : Stmt := topS 10
theorem sc_can_mark : FnScope ["witness", "rest", "dealing", "number"] ["witness", "rest"] (defScope s_can_mark) := ⟨rfl, rfl, rfl, by decide +kernel, rfl, by decide +kernel, by decide +kernel⟩
abbrev s_can_back : Stmt := topS 11
theorem sc_can_back : FnScope ["witness", "rest", "dealing", "number", "doer"] ["witness", "rest"] (defScope s_can_back) := ⟨rfl, rfl, rfl, by decide +kernel, rfl, by decide +kernel, by decide +kernel⟩
abbrev s_can_keep : Stmt := topS 12
theorem sc_can_keep : FnScope ["witness", "rest", "dealing", "place", "doer", "sheet", "key", "worth"] ["witness", "rest"] (defScope s_can_keep) := ⟨rfl, rfl, rfl, by decide +kernel, rfl, by decide +kernel, by decide +kernel⟩
abbrev s_can_undo : Stmt := topS 13
theorem sc_can_undo : FnScope ["witness", "rest"] ["witness", "rest"] (defScope s_can_undo) := ⟨rfl, rfl, rfl, by decide +kernel, rfl, by decide +kernel, by decide +kernel⟩
abbrev s_can_fall : Stmt := topS 14
theorem sc_can_fall : FnScope ["witness", "rest", "many"] ["witness", "rest"] (defScope s_can_fall) := ⟨rfl, rfl, rfl, by decide +kernel, rfl, by decide +kernel, by decide +kernel⟩
abbrev s_can_rise : Stmt := topS 15
theorem sc_can_rise : FnScope ["witness", "rest", "many", "rows"] ["witness", "rest"] (defScope s_can_rise) := ⟨rfl, rfl, rfl, by decide +kernel, rfl, by decide +kernel, by decide +kernel⟩
abbrev s_can_be : Stmt := topS 17
theorem sc_can_be : FnScope ["witness", "at", "event", "word", "rest"] ["witness", "at", "event"] (defScope s_can_be) := ⟨rfl, rfl, rfl, by decide +kernel, rfl, by decide +kernel, by decide +kernel⟩
abbrev s_wrong : Stmt := topS 18
theorem sc_wrong : FnScope ["history", "witness", "at", "event"] ["history"] (defScope s_wrong) := ⟨rfl, rfl, rfl, by decide +kernel, rfl, by decide +kernel, by decide +kernel⟩
abbrev s_l_cell_at : Stmt := topS 20
theorem sc_l_cell_at : FnScope ["script", "k"] ["script", "k"] (defScope s_l_cell_at) := ⟨rfl, rfl, rfl, by decide +kernel, rfl, by decide +kernel, by decide +kernel⟩
abbrev s_l_stir : Stmt := topS 21
theorem sc_l_stir : FnScope ["seed", "turn", "number"] ["seed", "turn"] (defScope s_l_stir) := ⟨rfl, rfl, rfl, by decide +kernel, rfl, by decide +kernel, by decide +kernel⟩
abbrev s_l_well : Stmt := topS 22
theorem sc_l_well : FnScope ["cell", "k", "seed"] ["cell", "k"] (defScope s_l_well) := ⟨rfl, rfl, rfl, by decide +kernel, rfl, by decide +kernel, by decide +kernel⟩
abbrev s_l_draw : Stmt := topS 23
theorem sc_l_draw : FnScope ["well", "many", "taken"] ["well", "many"] (defScope s_l_draw) := ⟨rfl, rfl, rfl, by decide +kernel, rfl, by decide +kernel, by decide +kernel⟩
abbrev s_l_new_name : Stmt := topS 24
theorem sc_l_new_name : FnScope ["well", "names", "letters", "pick", "letter", "name", "old", "at", "some", "k", "one"] ["well", "names"] (defScope s_l_new_name) := ⟨rfl, rfl, rfl, by decide +kernel, rfl, by decide +kernel, by decide +kernel⟩
abbrev s_l_new_state : Stmt := topS 25
theorem sc_l_new_state : FnScope [] [] (defScope s_l_new_state) := ⟨rfl, rfl, rfl, by decide +kernel, rfl, by decide +kernel, by decide +kernel⟩
abbrev s_l_sees : Stmt := topS 26
theorem sc_l_sees : FnScope ["state", "dealing", "key", "stand", "own", "worth", "one", "writes", "name", "number"] ["state", "dealing", "key"] (defScope s_l_sees) := ⟨rfl, rfl, rfl, by decide +kernel, rfl, by decide +kernel, by decide +kernel⟩
abbrev s_l_keys_of : Stmt := topS 27
theorem sc_l_keys_of : FnScope ["state", "dealing", "found", "one", "writes", "name", "number"] ["state", "dealing"] (defScope s_l_keys_of) := ⟨rfl, rfl, rfl, by decide +kernel, rfl, by decide +kernel, by decide +kernel⟩
abbrev s_l_scanned : Stmt := topS 28
theorem sc_l_scanned : FnScope ["state", "dealing", "low", "high", "rows", "key", "worth"] ["state", "dealing", "low", "high"] (defScope s_l_scanned) := ⟨rfl, rfl, rfl, by decide +kernel, rfl, by decide +kernel, by decide +kernel⟩
abbrev s_l_free : Stmt := topS 29
theorem sc_l_free : FnScope ["state", "dealing", "key", "one", "others", "writes", "name", "number"] ["state", "dealing", "key"] (defScope s_l_free) := ⟨rfl, rfl, rfl, by decide +kernel, rfl, by decide +kernel, by decide +kernel⟩
abbrev s_l_places : Stmt := topS 30
theorem sc_l_places : FnScope ["state"] ["state"] (defScope s_l_places) := ⟨rfl, rfl, rfl, by decide +kernel, rfl, by decide +kernel, by decide +kernel⟩
abbrev s_l_deed_can : Stmt := topS 31
theorem sc_l_deed_can : FnScope ["state", "event", "word", "dealing", "many"] ["state", "event"] (defScope s_l_deed_can) := ⟨rfl, rfl, rfl, by decide +kernel, rfl, by decide +kernel, by decide +kernel⟩
abbrev s_l_can : Stmt := topS 32
theorem sc_l_can : FnScope ["state", "event", "at", "kept", "one", "writes"] ["state", "event", "at"] (defScope s_l_can) := ⟨rfl, rfl, rfl, by decide +kernel, rfl, by decide +kernel, by decide +kernel⟩
abbrev s_l_happens : Stmt := topS 33
theorem sc_l_happens : FnScope ["state", "event", "word", "stand", "own"] ["state", "event"] (defScope s_l_happens) := ⟨rfl, rfl, rfl, by decide +kernel, rfl, by decide +kernel, by decide +kernel⟩
abbrev s_l_judged : Stmt := topS 34
theorem sc_l_judged : FnScope ["events", "state", "at"] ["events"] (defScope s_l_judged) := ⟨rfl, rfl, rfl, by decide +kernel, rfl, by decide +kernel, by decide +kernel⟩
abbrev s_l_worth : Stmt := topS 35
theorem sc_l_worth : FnScope ["well", "great"] ["well"] (defScope s_l_worth) := ⟨rfl, rfl, rfl, by decide +kernel, rfl, by decide +kernel, by decide +kernel⟩
abbrev s_l_edge : Stmt := topS 36
theorem sc_l_edge : FnScope ["well", "keys", "key"] ["well", "keys"] (defScope s_l_edge) := ⟨rfl, rfl, rfl, by decide +kernel, rfl, by decide +kernel, by decide +kernel⟩
abbrev s_l_begun : Stmt := topS 37
theorem sc_l_begun : FnScope ["well", "state", "there", "number", "other", "one", "writes"] ["well", "state"] (defScope s_l_begun) := ⟨rfl, rfl, rfl, by decide +kernel, rfl, by decide +kernel, by decide +kernel⟩
abbrev s_l_deed : Stmt := topS 38
theorem sc_l_deed : FnScope ["well", "state", "keys", "falls", "words", "word", "dealing", "key", "many", "low", "high"] ["well", "state", "keys", "falls"] (defScope s_l_deed) := ⟨rfl, rfl, rfl, by decide +kernel, rfl, by decide +kernel, by decide +kernel⟩
abbrev s_l_raised : Stmt := topS 39
theorem sc_l_raised : FnScope ["well", "keys", "rows", "key"] ["well", "keys"] (defScope s_l_raised) := ⟨rfl, rfl, rfl, by decide +kernel, rfl, by decide +kernel, by decide +kernel⟩
abbrev s_l_history : Stmt := topS 40
theorem sc_l_history : FnScope ["cells", "first", "most", "falls", "head", "keys", "k", "state", "found", "well", "j"] ["cells", "first", "most", "falls"] (defScope s_l_history) := ⟨rfl, rfl, rfl, by decide +kernel, rfl, by decide +kernel, by decide +kernel⟩
abbrev s_l_row_turned : Stmt := topS 41
theorem sc_l_row_turned : FnScope ["well", "rows", "keys", "pick", "at", "one", "row"] ["well", "rows", "keys"] (defScope s_l_row_turned) := ⟨rfl, rfl, rfl, by decide +kernel, rfl, by decide +kernel, by decide +kernel⟩
abbrev s_l_near : Stmt := topS 42
theorem sc_l_near : FnScope ["well", "number"] ["well", "number"] (defScope s_l_near) := ⟨rfl, rfl, rfl, by decide +kernel, rfl, by decide +kernel, by decide +kernel⟩
abbrev s_l_event_turned : Stmt := topS 43
theorem sc_l_event_turned : FnScope ["well", "event", "keys", "numbers", "word", "at", "key", "other", "part", "new"] ["well", "event", "keys", "numbers"] (defScope s_l_event_turned) := ⟨rfl, rfl, rfl, by decide +kernel, rfl, by decide +kernel, by decide +kernel⟩
abbrev s_l_foreign : Stmt := topS 44
theorem sc_l_foreign : FnScope ["well", "keys", "numbers", "one", "key", "some"] ["well", "keys", "numbers"] (defScope s_l_foreign) := ⟨rfl, rfl, rfl, by decide +kernel, rfl, by decide +kernel, by decide +kernel⟩
abbrev s_l_turned : Stmt := topS 45
theorem sc_l_turned : FnScope ["well", "events", "keys", "pick", "at", "to", "numbers", "left", "event"] ["well", "events", "keys"] (defScope s_l_turned) := ⟨rfl, rfl, rfl, by decide +kernel, rfl, by decide +kernel, by decide +kernel⟩
abbrev s_l_copied : Stmt := topS 46
theorem sc_l_copied : FnScope ["events", "event"] ["events"] (defScope s_l_copied) := ⟨rfl, rfl, rfl, by decide +kernel, rfl, by decide +kernel, by decide +kernel⟩
abbrev s_law : Stmt := topS 47
theorem sc_law : FnScope ["script", "head", "falls", "keys", "events", "k", "well", "turned", "due", "handed", "found"] ["script"] (defScope s_law) := ⟨rfl, rfl, rfl, by decide +kernel, rfl, by decide +kernel, by decide +kernel⟩
structure Tx (w : World) (K : PySem.W.Frag) (mg : Str → Option Value) : Prop where
  F_Witness___init__ : ∃ fd, FunD K "__init__" "Witness.__init__" (defArgs s_Witness___init__) (defBody s_Witness___init__) (defScope s_Witness___init__) [] [] (He.ma K (He.ga K "Witness") "__init__") fd
  F_Witness_last_place : ∃ fd, FunD K "last_place" "Witness.last_place" (defArgs s_Witness_last_place) (defBody s_Witness_last_place) (defScope s_Witness_last_place) [] [] (He.ma K (He.ga K "Witness") "last_place") fd
  F_Doer___init__ : ∃ fd, FunD K "__init__" "Doer.__init__" (defArgs s_Doer___init__) (defBody s_Doer___init__) (defScope s_Doer___init__) [] [] (He.ma K (He.ga K "Doer") "__init__") fd
  F_view_of : ∃ fd, FunD K "view_of" "view_of" (defArgs s_view_of) (defBody s_view_of) (defScope s_view_of) [] [] (He.ga K "view_of") fd
  g_view_of : mg "view_of" = some (.ref (He.ga K "view_of"))
  F_is_free : ∃ fd, FunD K "is_free" "is_free" (defArgs s_is_free) (defBody s_is_free) (defScope s_is_free) [] [] (He.ga K "is_free") fd
  g_is_free : mg "is_free" = some (.ref (He.ga K "is_free"))
  F_can_begin : ∃ fd, FunD K "can_begin" "can_begin" (defArgs s_can_begin) (defBody s_can_begin) (defScope s_can_begin) [] [] (He.ga K "can_begin") fd
  g_can_begin : mg "can_begin" = some (.ref (He.ga K "can_begin"))
  F_can_read : ∃ fd, FunD K "can_read" "can_read" (defArgs s_can_read) (defBody s_can_read) (defScope s_can_read) [] [] (He.ga K "can_read") fd
  g_can_read : mg "can_read" = some (.ref (He.ga K "can_read"))
  F_can_scan : ∃ fd, FunD K "can_scan" "can_scan" (defArgs s_can_scan) (defBody s_can_scan) (defScope s_can_scan) [] [] (He.ga K "can_scan") fd
  g_can_scan : mg "can_scan" = some (.ref (He.ga K "can_scan"))
  F_can_put : ∃ fd, FunD K "can_put" "can_put" (defArgs s_can_put) (defBody s_can_put) (defScope s_can_put) [] [] (He.ga K "can_put") fd
  g_can_put : mg "can_put" = some (.ref (He.ga K "can_put"))
  F_can_drop : ∃ fd, FunD K "can_drop" "can_drop" (defArgs s_can_drop) (defBody s_can_drop) (defScope s_can_drop) [] [] (He.ga K "can_drop") fd
  g_can_drop : mg "can_drop" = some (.ref (He.ga K "can_drop"))
  F_can_mark : ∃ fd, FunD K "can_mark" "can_mark" (defArgs s_can_mark) (defBody s_can_mark) (defScope s_can_mark) [] [] (He.ga K "can_mark") fd
  g_can_mark : mg "can_mark" = some (.ref (He.ga K "can_mark"))
  F_can_back : ∃ fd, FunD K "can_back" "can_back" (defArgs s_can_back) (defBody s_can_back) (defScope s_can_back) [] [] (He.ga K "can_back") fd
  g_can_back : mg "can_back" = some (.ref (He.ga K "can_back"))
  F_can_keep : ∃ fd, FunD K "can_keep" "can_keep" (defArgs s_can_keep) (defBody s_can_keep) (defScope s_can_keep) [] [] (He.ga K "can_keep") fd
  g_can_keep : mg "can_keep" = some (.ref (He.ga K "can_keep"))
  F_can_undo : ∃ fd, FunD K "can_undo" "can_undo" (defArgs s_can_undo) (defBody s_can_undo) (defScope s_can_undo) [] [] (He.ga K "can_undo") fd
  g_can_undo : mg "can_undo" = some (.ref (He.ga K "can_undo"))
  F_can_fall : ∃ fd, FunD K "can_fall" "can_fall" (defArgs s_can_fall) (defBody s_can_fall) (defScope s_can_fall) [] [] (He.ga K "can_fall") fd
  g_can_fall : mg "can_fall" = some (.ref (He.ga K "can_fall"))
  F_can_rise : ∃ fd, FunD K "can_rise" "can_rise" (defArgs s_can_rise) (defBody s_can_rise) (defScope s_can_rise) [] [] (He.ga K "can_rise") fd
  g_can_rise : mg "can_rise" = some (.ref (He.ga K "can_rise"))
  F_can_be : ∃ fd, FunD K "can_be" "can_be" (defArgs s_can_be) (defBody s_can_be) (defScope s_can_be) [] [] (He.ga K "can_be") fd
  g_can_be : mg "can_be" = some (.ref (He.ga K "can_be"))
  F_wrong : ∃ fd, FunD K "wrong" "wrong" (defArgs s_wrong) (defBody s_wrong) (defScope s_wrong) [] [] (He.ga K "wrong") fd
  g_wrong : mg "wrong" = some (.ref (He.ga K "wrong"))
  F_l_cell_at : ∃ fd, FunD K "_law_cell_at" "_law_cell_at" (defArgs s_l_cell_at) (defBody s_l_cell_at) (defScope s_l_cell_at) [] [] (He.ga K "_law_cell_at") fd
  g_l_cell_at : mg "_law_cell_at" = some (.ref (He.ga K "_law_cell_at"))
  F_l_stir : ∃ fd, FunD K "_law_stir" "_law_stir" (defArgs s_l_stir) (defBody s_l_stir) (defScope s_l_stir) [] [] (He.ga K "_law_stir") fd
  g_l_stir : mg "_law_stir" = some (.ref (He.ga K "_law_stir"))
  F_l_well : ∃ fd, FunD K "_law_well" "_law_well" (defArgs s_l_well) (defBody s_l_well) (defScope s_l_well) [] [] (He.ga K "_law_well") fd
  g_l_well : mg "_law_well" = some (.ref (He.ga K "_law_well"))
  F_l_draw : ∃ fd, FunD K "_law_draw" "_law_draw" (defArgs s_l_draw) (defBody s_l_draw) (defScope s_l_draw) [] [] (He.ga K "_law_draw") fd
  g_l_draw : mg "_law_draw" = some (.ref (He.ga K "_law_draw"))
  F_l_new_name : ∃ fd, FunD K "_law_new_name" "_law_new_name" (defArgs s_l_new_name) (defBody s_l_new_name) (defScope s_l_new_name) [] [] (He.ga K "_law_new_name") fd
  g_l_new_name : mg "_law_new_name" = some (.ref (He.ga K "_law_new_name"))
  F_l_new_state : ∃ fd, FunD K "_law_new_state" "_law_new_state" (defArgs s_l_new_state) (defBody s_l_new_state) (defScope s_l_new_state) [] [] (He.ga K "_law_new_state") fd
  g_l_new_state : mg "_law_new_state" = some (.ref (He.ga K "_law_new_state"))
  F_l_sees : ∃ fd, FunD K "_law_sees" "_law_sees" (defArgs s_l_sees) (defBody s_l_sees) (defScope s_l_sees) [] [] (He.ga K "_law_sees") fd
  g_l_sees : mg "_law_sees" = some (.ref (He.ga K "_law_sees"))
  F_l_keys_of : ∃ fd, FunD K "_law_keys_of" "_law_keys_of" (defArgs s_l_keys_of) (defBody s_l_keys_of) (defScope s_l_keys_of) [] [] (He.ga K "_law_keys_of") fd
  g_l_keys_of : mg "_law_keys_of" = some (.ref (He.ga K "_law_keys_of"))
  F_l_scanned : ∃ fd, FunD K "_law_scanned" "_law_scanned" (defArgs s_l_scanned) (defBody s_l_scanned) (defScope s_l_scanned) [] [] (He.ga K "_law_scanned") fd
  g_l_scanned : mg "_law_scanned" = some (.ref (He.ga K "_law_scanned"))
  F_l_free : ∃ fd, FunD K "_law_free" "_law_free" (defArgs s_l_free) (defBody s_l_free) (defScope s_l_free) [] [] (He.ga K "_law_free") fd
  g_l_free : mg "_law_free" = some (.ref (He.ga K "_law_free"))
  F_l_places : ∃ fd, FunD K "_law_places" "_law_places" (defArgs s_l_places) (defBody s_l_places) (defScope s_l_places) [] [] (He.ga K "_law_places") fd
  g_l_places : mg "_law_places" = some (.ref (He.ga K "_law_places"))
  F_l_deed_can : ∃ fd, FunD K "_law_deed_can" "_law_deed_can" (defArgs s_l_deed_can) (defBody s_l_deed_can) (defScope s_l_deed_can) [] [] (He.ga K "_law_deed_can") fd
  g_l_deed_can : mg "_law_deed_can" = some (.ref (He.ga K "_law_deed_can"))
  F_l_can : ∃ fd, FunD K "_law_can" "_law_can" (defArgs s_l_can) (defBody s_l_can) (defScope s_l_can) [] [] (He.ga K "_law_can") fd
  g_l_can : mg "_law_can" = some (.ref (He.ga K "_law_can"))
  F_l_happens : ∃ fd, FunD K "_law_happens" "_law_happens" (defArgs s_l_happens) (defBody s_l_happens) (defScope s_l_happens) [] [] (He.ga K "_law_happens") fd
  g_l_happens : mg "_law_happens" = some (.ref (He.ga K "_law_happens"))
  F_l_judged : ∃ fd, FunD K "_law_judged" "_law_judged" (defArgs s_l_judged) (defBody s_l_judged) (defScope s_l_judged) [] [] (He.ga K "_law_judged") fd
  g_l_judged : mg "_law_judged" = some (.ref (He.ga K "_law_judged"))
  F_l_worth : ∃ fd, FunD K "_law_worth" "_law_worth" (defArgs s_l_worth) (defBody s_l_worth) (defScope s_l_worth) [] [] (He.ga K "_law_worth") fd
  g_l_worth : mg "_law_worth" = some (.ref (He.ga K "_law_worth"))
  F_l_edge : ∃ fd, FunD K "_law_edge" "_law_edge" (defArgs s_l_edge) (defBody s_l_edge) (defScope s_l_edge) [] [] (He.ga K "_law_edge") fd
  g_l_edge : mg "_law_edge" = some (.ref (He.ga K "_law_edge"))
  F_l_begun : ∃ fd, FunD K "_law_begun" "_law_begun" (defArgs s_l_begun) (defBody s_l_begun) (defScope s_l_begun) [] [] (He.ga K "_law_begun") fd
  g_l_begun : mg "_law_begun" = some (.ref (He.ga K "_law_begun"))
  F_l_deed : ∃ fd, FunD K "_law_deed" "_law_deed" (defArgs s_l_deed) (defBody s_l_deed) (defScope s_l_deed) [] [] (He.ga K "_law_deed") fd
  g_l_deed : mg "_law_deed" = some (.ref (He.ga K "_law_deed"))
  F_l_raised : ∃ fd, FunD K "_law_raised" "_law_raised" (defArgs s_l_raised) (defBody s_l_raised) (defScope s_l_raised) [] [] (He.ga K "_law_raised") fd
  g_l_raised : mg "_law_raised" = some (.ref (He.ga K "_law_raised"))
  F_l_history : ∃ fd, FunD K "_law_history" "_law_history" (defArgs s_l_history) (defBody s_l_history) (defScope s_l_history) [] [] (He.ga K "_law_history") fd
  g_l_history : mg "_law_history" = some (.ref (He.ga K "_law_history"))
  F_l_row_turned : ∃ fd, FunD K "_law_row_turned" "_law_row_turned" (defArgs s_l_row_turned) (defBody s_l_row_turned) (defScope s_l_row_turned) [] [] (He.ga K "_law_row_turned") fd
  g_l_row_turned : mg "_law_row_turned" = some (.ref (He.ga K "_law_row_turned"))
  F_l_near : ∃ fd, FunD K "_law_near" "_law_near" (defArgs s_l_near) (defBody s_l_near) (defScope s_l_near) [] [] (He.ga K "_law_near") fd
  g_l_near : mg "_law_near" = some (.ref (He.ga K "_law_near"))
  F_l_event_turned : ∃ fd, FunD K "_law_event_turned" "_law_event_turned" (defArgs s_l_event_turned) (defBody s_l_event_turned) (defScope s_l_event_turned) [] [] (He.ga K "_law_event_turned") fd
  g_l_event_turned : mg "_law_event_turned" = some (.ref (He.ga K "_law_event_turned"))
  F_l_foreign : ∃ fd, FunD K "_law_foreign" "_law_foreign" (defArgs s_l_foreign) (defBody s_l_foreign) (defScope s_l_foreign) [] [] (He.ga K "_law_foreign") fd
  g_l_foreign : mg "_law_foreign" = some (.ref (He.ga K "_law_foreign"))
  F_l_turned : ∃ fd, FunD K "_law_turned" "_law_turned" (defArgs s_l_turned) (defBody s_l_turned) (defScope s_l_turned) [] [] (He.ga K "_law_turned") fd
  g_l_turned : mg "_law_turned" = some (.ref (He.ga K "_law_turned"))
  F_l_copied : ∃ fd, FunD K "_law_copied" "_law_copied" (defArgs s_l_copied) (defBody s_l_copied) (defScope s_l_copied) [] [] (He.ga K "_law_copied") fd
  g_l_copied : mg "_law_copied" = some (.ref (He.ga K "_law_copied"))
  F_law : ∃ fd, FunD K "law" "law" (defArgs s_law) (defBody s_law) (defScope s_law) [] [] (He.ga K "law") fd
  g_law : mg "law" = some (.ref (He.ga K "law"))
  g_Witness : mg "Witness" = some (.ref (He.ga K "Witness"))
  cl_Witness : Cls K (He.ga K "Witness")
  na_Witness_base : NoAttr K (He.ga K "Witness") "base"
  na_Witness_sheets : NoAttr K (He.ga K "Witness") "sheets"
  na_Witness_keepers : NoAttr K (He.ga K "Witness") "keepers"
  na_Witness_doers : NoAttr K (He.ga K "Witness") "doers"
  me_Witness___init__ : Meth K (He.ga K "Witness") "__init__" (He.ma K (He.ga K "Witness") "__init__")
  me_Witness_last_place : Meth K (He.ga K "Witness") "last_place" (He.ma K (He.ga K "Witness") "last_place")
  mk_Witness : Mk K (He.ga K "Witness") (He.ma K (He.ga K "Witness") "__init__")
  g_Doer : mg "Doer" = some (.ref (He.ga K "Doer"))
  cl_Doer : Cls K (He.ga K "Doer")
  na_Doer_since : NoAttr K (He.ga K "Doer") "since"
  na_Doer_writes : NoAttr K (He.ga K "Doer") "writes"
  me_Doer___init__ : Meth K (He.ga K "Doer") "__init__" (He.ma K (He.ga K "Doer") "__init__")
  mk_Doer : Mk K (He.ga K "Doer") (He.ma K (He.ga K "Doer") "__init__")
  n_any : mg "any" = none
  n_bool : mg "bool" = none
  n_dict : mg "dict" = none
  n_enumerate : mg "enumerate" = none
  n_int : mg "int" = none
  n_isinstance : mg "isinstance" = none
  n_len : mg "len" = none
  n_list : mg "list" = none
  n_max : mg "max" = none
  n_range : mg "range" = none
  n_sorted : mg "sorted" = none
  n_str : mg "str" = none
  g_OF_DEALINGS : mg "OF_DEALINGS" = some (.ref (He.ga K "OF_DEALINGS"))
  k_OF_DEALINGS_read : KDct K w (He.ga K "OF_DEALINGS") "read" (He.Dv.v K (.glo "can_read"))
  k_OF_DEALINGS_scan : KDct K w (He.ga K "OF_DEALINGS") "scan" (He.Dv.v K (.glo "can_scan"))
  k_OF_DEALINGS_put : KDct K w (He.ga K "OF_DEALINGS") "put" (He.Dv.v K (.glo "can_put"))
  k_OF_DEALINGS_drop : KDct K w (He.ga K "OF_DEALINGS") "drop" (He.Dv.v K (.glo "can_drop"))
  k_OF_DEALINGS_mark : KDct K w (He.ga K "OF_DEALINGS") "mark" (He.Dv.v K (.glo "can_mark"))
  k_OF_DEALINGS_back : KDct K w (He.ga K "OF_DEALINGS") "back" (He.Dv.v K (.glo "can_back"))
  k_OF_DEALINGS_keep : KDct K w (He.ga K "OF_DEALINGS") "keep" (He.Dv.v K (.glo "can_keep"))
  k_OF_DEALINGS_undo : KDct K w (He.ga K "OF_DEALINGS") "undo" (He.Dv.v K (.glo "can_undo"))
  kp_OF_DEALINGS_read : PySem.W.keepIn K (.ref (He.ga K "can_read")) = true
  kp_OF_DEALINGS_scan : PySem.W.keepIn K (.ref (He.ga K "can_scan")) = true
  kp_OF_DEALINGS_put : PySem.W.keepIn K (.ref (He.ga K "can_put")) = true
  kp_OF_DEALINGS_drop : PySem.W.keepIn K (.ref (He.ga K "can_drop")) = true
  kp_OF_DEALINGS_mark : PySem.W.keepIn K (.ref (He.ga K "can_mark")) = true
  kp_OF_DEALINGS_back : PySem.W.keepIn K (.ref (He.ga K "can_back")) = true
  kp_OF_DEALINGS_keep : PySem.W.keepIn K (.ref (He.ga K "can_keep")) = true
  kp_OF_DEALINGS_undo : PySem.W.keepIn K (.ref (He.ga K "can_undo")) = true

end
section
def d_Witness___init__ : He.DefD := ⟨("Witness", some "__init__"), "__init__", "Witness.__init__", defArgs s_Witness___init__, defBody s_Witness___init__, defScope s_Witness___init__, [], []⟩
def d_Witness_last_place : He.DefD := ⟨("Witness", some "last_place"), "last_place", "Witness.last_place", defArgs s_Witness_last_place, defBody s_Witness_last_place, defScope s_Witness_last_place, [], []⟩
def d_Doer___init__ : He.DefD := ⟨("Doer", some "__init__"), "__init__", "Doer.__init__", defArgs s_Doer___init__, defBody s_Doer___init__, defScope s_Doer___init__, [], []⟩
def d_view_of : He.DefD := ⟨("view_of", none), "view_of", "view_of", defArgs s_view_of, defBody s_view_of, defScope s_view_of, [], []⟩
def d_is_free : He.DefD := ⟨("is_free", none), "is_free", "is_free", defArgs s_is_free, defBody s_is_free, defScope s_is_free, [], []⟩
def d_can_begin : He.DefD := ⟨("can_begin", none), "can_begin", "can_begin", defArgs s_can_begin, defBody s_can_begin, defScope s_can_begin, [], []⟩
def d_can_read : He.DefD := ⟨("can_read", none), "can_read", "can_read", defArgs s_can_read, defBody s_can_read, defScope s_can_read, [], []⟩
def d_can_scan : He.DefD := ⟨("can_scan", none), "can_scan", "can_scan", defArgs s_can_scan, defBody s_can_scan, defScope s_can_scan, [], []⟩
def d_can_put : He.DefD := ⟨("can_put", none), "can_put", "can_put", defArgs s_can_put, defBody s_can_put, defScope s_can_put, [], []⟩
def d_can_drop : He.DefD := ⟨("can_drop", none), "can_drop", "can_drop", defArgs s_can_drop, defBody s_can_drop, defScope s_can_drop, [], []⟩
def d_can_mark : He.DefD := ⟨("can_mark", none), "can_mark", "can_mark", defArgs s_can_mark, defBody s_can_mark, defScope s_can_mark, [], []⟩
def d_can_back : He.DefD := ⟨("can_back", none), "can_back", "can_back", defArgs s_can_back, defBody s_can_back, defScope s_can_back, [], []⟩
def d_can_keep : He.DefD := ⟨("can_keep", none), "can_keep", "can_keep", defArgs s_can_keep, defBody s_can_keep, defScope s_can_keep, [], []⟩
def d_can_undo : He.DefD := ⟨("can_undo", none), "can_undo", "can_undo", defArgs s_can_undo, defBody s_can_undo, defScope s_can_undo, [], []⟩
def d_can_fall : He.DefD := ⟨("can_fall", none), "can_fall", "can_fall", defArgs s_can_fall, defBody s_can_fall, defScope s_can_fall, [], []⟩
def d_can_rise : He.DefD := ⟨("can_rise", none), "can_rise", "can_rise", defArgs s_can_rise, defBody s_can_rise, defScope s_can_rise, [], []⟩
def d_can_be : He.DefD := ⟨("can_be", none), "can_be", "can_be", defArgs s_can_be, defBody s_can_be, defScope s_can_be, [], []⟩
def d_wrong : He.DefD := ⟨("wrong", none), "wrong", "wrong", defArgs s_wrong, defBody s_wrong, defScope s_wrong, [], []⟩
def d_l_cell_at : He.DefD := ⟨("_law_cell_at", none), "_law_cell_at", "_law_cell_at", defArgs s_l_cell_at, defBody s_l_cell_at, defScope s_l_cell_at, [], []⟩
def d_l_stir : He.DefD := ⟨("_law_stir", none), "_law_stir", "_law_stir", defArgs s_l_stir, defBody s_l_stir, defScope s_l_stir, [], []⟩
def d_l_well : He.DefD := ⟨("_law_well", none), "_law_well", "_law_well", defArgs s_l_well, defBody s_l_well, defScope s_l_well, [], []⟩
def d_l_draw : He.DefD := ⟨("_law_draw", none), "_law_draw", "_law_draw", defArgs s_l_draw, defBody s_l_draw, defScope s_l_draw, [], []⟩
def d_l_new_name : He.DefD := ⟨("_law_new_name", none), "_law_new_name", "_law_new_name", defArgs s_l_new_name, defBody s_l_new_name, defScope s_l_new_name, [], []⟩
def d_l_new_state : He.DefD := ⟨("_law_new_state", none), "_law_new_state", "_law_new_state", defArgs s_l_new_state, defBody s_l_new_state, defScope s_l_new_state, [], []⟩
def d_l_sees : He.DefD := ⟨("_law_sees", none), "_law_sees", "_law_sees", defArgs s_l_sees, defBody s_l_sees, defScope s_l_sees, [], []⟩
def d_l_keys_of : He.DefD := ⟨("_law_keys_of", none), "_law_keys_of", "_law_keys_of", defArgs s_l_keys_of, defBody s_l_keys_of, defScope s_l_keys_of, [], []⟩
def d_l_scanned : He.DefD := ⟨("_law_scanned", none), "_law_scanned", "_law_scanned", defArgs s_l_scanned, defBody s_l_scanned, defScope s_l_scanned, [], []⟩
def d_l_free : He.DefD := ⟨("_law_free", none), "_law_free", "_law_free", defArgs s_l_free, defBody s_l_free, defScope s_l_free, [], []⟩
def d_l_places : He.DefD := ⟨("_law_places", none), "_law_places", "_law_places", defArgs s_l_places, defBody s_l_places, defScope s_l_places, [], []⟩
def d_l_deed_can : He.DefD := ⟨("_law_deed_can", none), "_law_deed_can", "_law_deed_can", defArgs s_l_deed_can, defBody s_l_deed_can, defScope s_l_deed_can, [], []⟩
def d_l_can : He.DefD := ⟨("_law_can", none), "_law_can", "_law_can", defArgs s_l_can, defBody s_l_can, defScope s_l_can, [], []⟩
def d_l_happens : He.DefD := ⟨("_law_happens", none), "_law_happens", "_law_happens", defArgs s_l_happens, defBody s_l_happens, defScope s_l_happens, [], []⟩
def d_l_judged : He.DefD := ⟨("_law_judged", none), "_law_judged", "_law_judged", defArgs s_l_judged, defBody s_l_judged, defScope s_l_judged, [], []⟩
def d_l_worth : He.DefD := ⟨("_law_worth", none), "_law_worth", "_law_worth", defArgs s_l_worth, defBody s_l_worth, defScope s_l_worth, [], []⟩
def d_l_edge : He.DefD := ⟨("_law_edge", none), "_law_edge", "_law_edge", defArgs s_l_edge, defBody s_l_edge, defScope s_l_edge, [], []⟩
def d_l_begun : He.DefD := ⟨("_law_begun", none), "_law_begun", "_law_begun", defArgs s_l_begun, defBody s_l_begun, defScope s_l_begun, [], []⟩
def d_l_deed : He.DefD := ⟨("_law_deed", none), "_law_deed", "_law_deed", defArgs s_l_deed, defBody s_l_deed, defScope s_l_deed, [], []⟩
def d_l_raised : He.DefD := ⟨("_law_raised", none), "_law_raised", "_law_raised", defArgs s_l_raised, defBody s_l_raised, defScope s_l_raised, [], []⟩
def d_l_history : He.DefD := ⟨("_law_history", none), "_law_history", "_law_history", defArgs s_l_history, defBody s_l_history, defScope s_l_history, [], []⟩
def d_l_row_turned : He.DefD := ⟨("_law_row_turned", none), "_law_row_turned", "_law_row_turned", defArgs s_l_row_turned, defBody s_l_row_turned, defScope s_l_row_turned, [], []⟩
def d_l_near : He.DefD := ⟨("_law_near", none), "_law_near", "_law_near", defArgs s_l_near, defBody s_l_near, defScope s_l_near, [], []⟩
def d_l_event_turned : He.DefD := ⟨("_law_event_turned", none), "_law_event_turned", "_law_event_turned", defArgs s_l_event_turned, defBody s_l_event_turned, defScope s_l_event_turned, [], []⟩
def d_l_foreign : He.DefD := ⟨("_law_foreign", none), "_law_foreign", "_law_foreign", defArgs s_l_foreign, defBody s_l_foreign, defScope s_l_foreign, [], []⟩
def d_l_turned : He.DefD := ⟨("_law_turned", none), "_law_turned", "_law_turned", defArgs s_l_turned, defBody s_l_turned, defScope s_l_turned, [], []⟩
def d_l_copied : He.DefD := ⟨("_law_copied", none), "_law_copied", "_law_copied", defArgs s_l_copied, defBody s_l_copied, defScope s_l_copied, [], []⟩
def d_law : He.DefD := ⟨("law", none), "law", "law", defArgs s_law, defBody s_law, defScope s_law, [], []⟩
def fnL : List He.DefD := [d_Witness___init__, d_Witness_last_place, d_Doer___init__, d_view_of, d_is_free, d_can_begin, d_can_read, d_can_scan, d_can_put, d_can_drop, d_can_mark, d_can_back, d_can_keep, d_can_undo, d_can_fall, d_can_rise, d_can_be, d_wrong, d_l_cell_at, d_l_stir, d_l_well, d_l_draw, d_l_new_name, d_l_new_state, d_l_sees, d_l_keys_of, d_l_scanned, d_l_free, d_l_places, d_l_deed_can, d_l_can, d_l_happens, d_l_judged, d_l_worth, d_l_edge, d_l_begun, d_l_deed, d_l_raised, d_l_history, d_l_row_turned, d_l_near, d_l_event_turned, d_l_foreign, d_l_turned, d_l_copied, d_law]
def vals_OF_DEALINGS : List (Str × He.Dv) := [("read", .glo "can_read"), ("scan", .glo "can_scan"), ("put", .glo "can_put"), ("drop", .glo "can_drop"), ("mark", .glo "can_mark"), ("back", .glo "can_back"), ("keep", .glo "can_keep"), ("undo", .glo "can_undo")]
def tabL : List He.Tab := [(fun K => He.ga K "OF_DEALINGS", ["read", "scan", "put", "drop", "mark", "back", "keep", "undo"])]
def faL : List He.Fa := [.glo "view_of", .glo "is_free", .glo "can_begin", .glo "can_read", .glo "can_scan", .glo "can_put", .glo "can_drop", .glo "can_mark", .glo "can_back", .glo "can_keep", .glo "can_undo", .glo "can_fall", .glo "can_rise", .glo "can_be", .glo "wrong", .glo "_law_cell_at", .glo "_law_stir", .glo "_law_well", .glo "_law_draw", .glo "_law_new_name", .glo "_law_new_state", .glo "_law_sees", .glo "_law_keys_of", .glo "_law_scanned", .glo "_law_free", .glo "_law_places", .glo "_law_deed_can", .glo "_law_can", .glo "_law_happens", .glo "_law_judged", .glo "_law_worth", .glo "_law_edge", .glo "_law_begun", .glo "_law_deed", .glo "_law_raised", .glo "_law_history", .glo "_law_row_turned", .glo "_law_near", .glo "_law_event_turned", .glo "_law_foreign", .glo "_law_turned", .glo "_law_copied", .glo "law", .free "any", .free "bool", .free "dict", .free "enumerate", .free "int", .free "isinstance", .free "len", .free "list", .free "max", .free "range", .free "sorted", .free "str", .glo "OF_DEALINGS", .keep "can_read", .keep "can_scan", .keep "can_put", .keep "can_drop", .keep "can_mark", .keep "can_back", .keep "can_keep", .keep "can_undo", .glo "Witness", .cls "Witness", .noat "Witness" "base", .noat "Witness" "sheets", .noat "Witness" "keepers", .noat "Witness" "doers", .meth "Witness" "__init__", .meth "Witness" "last_place", .mkr "Witness", .glo "Doer", .cls "Doer", .noat "Doer" "since", .noat "Doer" "writes", .meth "Doer" "__init__", .mkr "Doer"]
abbrev R : PySem.W.OpenRow := PySem.W.OpenLaw.row PySem.Challenge.rw_slotkeep_k59_histories_that_cannot_be
def exL : List (PySem.W.Frag → Bool) := [fun K => He.valsB K (He.ga K "OF_DEALINGS") vals_OF_DEALINGS]
def exB (K : PySem.W.Frag) : Bool := exL.all fun f => f K
abbrev hk : PySem.W.Hook := He.hookX 4 faL fnL tabL [] exB
def ob (s : PySem.W.SharedT) : He.AlX := He.obsX 4 faL fnL tabL [] exB (HandSHeadRun.getT s)
theorem ob_eq (s : PySem.W.SharedT) : ob s = hk.obs s.abs := He.obsX_eq (HandSHeadRun.getT_eq s)
theorem exAt {K : PySem.W.Frag} (h : exB K = true) (i : Nat) {f : PySem.W.Frag → Bool} (e : exL[i]? = some f) : f K = true := List.all_eq_true.mp h f (List.mem_of_getElem? e)
def looseL : List PySem.Str := (["Witness", "Doer", "view_of", "is_free", "can_begin", "can_read", "can_scan", "can_put", "can_drop", "can_mark", "can_back", "can_keep", "can_undo", "can_fall", "can_rise", "OF_DEALINGS", "can_be", "wrong", "_law_cell_at", "_law_stir"] : List PySem.Str) ++ (["_law_well", "_law_draw", "_law_new_name", "_law_new_state", "_law_sees", "_law_keys_of", "_law_scanned", "_law_free", "_law_places", "_law_deed_can", "_law_can", "_law_happens", "_law_judged", "_law_worth", "_law_edge", "_law_begun", "_law_deed", "_law_raised", "_law_history", "_law_row_turned"] : List PySem.Str) ++ (["_law_near", "_law_event_turned", "_law_foreign", "_law_turned", "_law_copied"] : List PySem.Str)
theorem runF (w : World) : HandSHeadRun.RunEq R (PySem.W.view R.prog [47]) hk ob 3000 looseL (w.withFollow "special-get-raises" false) := by
  intro os
  kernel_rfl
theorem runT (w : World) : HandSHeadRun.RunEq R (PySem.W.view R.prog [47]) hk ob 3000 looseL (w.withFollow "special-get-raises" true) := by
  intro os
  kernel_rfl
theorem run (w : World) : HandSHeadRun.RunEq R (PySem.W.view R.prog [47]) hk ob 3000 looseL w := PySem.W.byRow2 "special-get-raises" (P := fun w => HandSHeadRun.RunEq R (PySem.W.view R.prog [47]) hk ob 3000 looseL w) runF runT w

end
section
variable {P : Program} {w : World} {K : PySem.W.Frag} {mg : Str → Option Value} {base : Heap}
def φ_stir : Ph := fun B vs L k => ∃ s t : Int, vs = [.int s, .int t] ∧ L = [] ∧ 0 ≤ s ∧ s < 2 ^ 200 ∧ 0 ≤ t ∧ t ≤ 2 ^ 101 ∧ ∀ c : Int, 0 ≤ c → k B (.int c) []
theorem fn_l_stir (T : Tx w K mg) (fd : FuncData) (F : FunD K "_law_stir" "_law_stir" (defArgs s_l_stir) (defBody s_l_stir) (defScope s_l_stir) [] [] (He.ga K "_law_stir") fd) : FnOk P w K mg base CX0 1 (He.ga K "_law_stir") fd ["seed", "turn"] (spY φ_stir) := by
  refine fnM F sc_l_stir (fun B vs L k h => by obtain ⟨_, _, rfl, _⟩ := h; rfl) (fun cdv A outer s H vs Q E B L e hz he hr S h => ?_)
  obtain ⟨s0, t0, rfl, rfl, h1, h2, h3, h4, k⟩ := h
  refine ⟨_, (pss_cons (ps_set (i := 2) sc_l_stir.nd rfl (.inl rfl) (pe_op (op_addU (K := K) rfl) (pe_op op_mulZ (pe_op (op_addU (K := K) rfl) (pv 0) pe_int) pe_int) (pe_op op_mulZ (pe_op (op_addU (K := K) rfl) (pv 1) pe_int) pe_int)))
      (pss_one (ps_ret (pe_op op_modU (pe_op op_powU (pv 2) pe_int) pe_int)))), ?_⟩
  walk_at "yn"
  refine y_mulW (a := 201) (b := 100) (by omega) (by decide) (by decide) (by decide) (by decide) ?_
  walk_at "yn"
  refine y_mulW (a := 102) (b := 100) (by omega) (by decide) (by decide) (by decide) (by decide) ?_
  walk_at "yn"
  refine y_powI (pow_ok (b := 400) (by omega) (by decide) (by decide) (by decide) (by decide)) ?_
  walk_at "yn"
  exact k _ (Int.emod_nonneg _ (by decide)) _ S
theorem ok_l_stir (T : Tx w K mg) : Ok P w K mg base 1 "_law_stir" ["seed", "turn"] (spY φ_stir) :=
  Ok.of T.F_l_stir T.g_l_stir (fun _ _ _ _ _ _ us hl => match us, hl with | [_, _], _ => rfl) (fn_l_stir T)
theorem y_stir {e : En} {B H : Hp} {L : Led} {Q : VK} {E : XK} {s t : Int} (S : Sy e B H L) (h1 : 0 ≤ s) (h2 : s < 2 ^ 200) (h3 : 0 ≤ t) (h4 : t ≤ 2 ^ 101) (k : ∀ c H', 0 ≤ c → Sy e B H' L → Q (.int c) H') : spY φ_stir [.int s, .int t] H Q E :=
  y_sp0 S ⟨s, t, rfl, rfl, h1, h2, h3, h4, fun c hc => fun H' S' => k c H' hc (S.back0 S')⟩
theorem fn_l_draw (T : Tx w K mg) (fd : FuncData) (F : FunD K "_law_draw" "_law_draw" (defArgs s_l_draw) (defBody s_l_draw) (defScope s_l_draw) [] [] (He.ga K "_law_draw") fd) : FnOk P w K mg base CX0 2 (He.ga K "_law_draw") fd ["well", "many"] (spY φ_draw) := by
  refine fnM F sc_l_draw (fun B vs L k h => by obtain ⟨_, _, _, _, rfl, _⟩ := h; rfl) (fun cdv A outer s H vs Q E B L e hz he hr S h => ?_)
  obtain ⟨b, o, many, n, rfl, rfl, ⟨x, y, z, rfl, h1, h2, h3, h4⟩, h5, h6, k⟩ := h
  refine ⟨_, (pss_cons (ps_if (pt_cmpR (op_eqZ (K := K) rfl hr.units) (pe_ix (ix_U (K := K) rfl (hu_of hr)) (pv 0) pe_int (fun _ _ => rfl)) pe_int (nomark _))
      (pss_cons (ps_asg (pe_op (op_addU (K := K) rfl) (pe_ix (ix_U (K := K) rfl (hu_of hr)) (pv 0) pe_int (fun _ _ => rfl)) pe_int) (pg_sub (pv 0) pe_int (set_U (hu_of hr))))
      (pss_one (ps_asg (pe_callO (ok_l_stir (K := K) T) hr (by rfl) (pa_cons (pe_ix (ix_U (K := K) rfl (hu_of hr)) (pv 0) pe_int (fun _ _ => rfl)) (pa_cons (pe_ix (ix_U (K := K) rfl (hu_of hr)) (pv 0) pe_int (fun _ _ => rfl)) pa_nil))) (pg_sub (pv 0) pe_int (set_U (hu_of hr))))))
      pss_nil)
      (pss_cons (ps_set (i := 2) sc_l_draw.nd rfl (.inl rfl) (pe_op op_modU (pe_ix (ix_U (K := K) rfl (hu_of hr)) (pv 0) pe_int (fun _ _ => rfl)) (pv 1)))
      (pss_cons (ps_asg (pe_op op_divU (pe_ix (ix_U (K := K) rfl (hu_of hr)) (pv 0) pe_int (fun _ _ => rfl)) (pv 1)) (pg_sub (pv 0) pe_int (set_U (hu_of hr))))
      (pss_one (ps_ret (pv 2)))))), ?_⟩
  walk_at "yn"
  walk_at "yy"
  refine y_ite (fun hc => ?_) (fun hc => ?_)
  · walk_at "yn"
    refine y_setL0 S rfl fun H S => ?_
    walk_at "yn"
    refine y_stir S h1 h2 (by omega) (by omega) fun c H hc S => ?_
    walk_at "yn"
    refine y_setL0 S rfl fun H S => ?_
    walk_at "yn"
    refine y_divI (wide_div h5 (b := 100) (by omega) (by decide) (by decide)) ?_
    walk_at "yn"
    refine y_setL0 S rfl fun H S => ?_
    walk_at "yn"
    exact k _ _ (Int.emod_nonneg _ (by omega)) (Int.emod_lt_of_pos _ h5) ⟨_, _, _, rfl, h1, h2, by omega, by omega⟩ _ S
  · walk_at "yn"
    refine y_divI (wide_div h5 (b := 100) (by omega) (by decide) (by decide)) ?_
    walk_at "yn"
    refine y_setL0 S rfl fun H S => ?_
    walk_at "yn"
    exact k _ _ (Int.emod_nonneg _ (by omega)) (Int.emod_lt_of_pos _ h5) ⟨_, _, _, rfl, h1, h2, by omega, by omega⟩ _ S
theorem ok_l_draw (T : Tx w K mg) : Ok P w K mg base 2 "_law_draw" ["well", "many"] (spY φ_draw) :=
  Ok.of T.F_l_draw T.g_l_draw (fun _ _ _ _ _ _ us hl => match us, hl with | [_, _], _ => rfl) (fn_l_draw T)
theorem fn_l_cell_at (T : Tx w K mg) (fd : FuncData) (F : FunD K "_law_cell_at" "_law_cell_at" (defArgs s_l_cell_at) (defBody s_l_cell_at) (defScope s_l_cell_at) [] [] (He.ga K "_law_cell_at") fd) : FnOk P w K mg base CX0 1 (He.ga K "_law_cell_at") fd ["script", "k"] (spY (φ_cell K)) := by
  refine fnM F sc_l_cell_at (fun B vs L k h => by obtain ⟨_, _, _, rfl, _⟩ := h; rfl) (fun cdv A outer s H vs Q E B L e hz he hr S h => ?_)
  obtain ⟨a, ns, i, rfl, rfl, hq, hi, k⟩ := h
  refine ⟨_, (pss_cons (ps_if (pt_cmpR op_ltU (pv 1) (pe_callB (call_lenU (K := K) rfl) (by rfl) T.n_len (by decide +kernel) (pa_cons (pv 0) pa_nil)) (nomark _))
      (pss_one (ps_ret (pe_ix (ix_U (K := K) rfl (hu_of hr)) (pv 0) (pv 1) (fun _ _ => rfl))))
      pss_nil)
      (pss_one (ps_ret pe_int))), ?_⟩
  walk_at "yn"
  walk_at "yy"
  refine y_ite (fun hc => ?_) (fun hc => ?_)
  · walk_at "yn"
    rw [List.length_map] at hc
    have h2 : i.toNat < ns.length := by omega
    exact y_ixL (S.l hq) (v := .int ns[i.toNat]) (atI_of hi (by simp [h2])) (k _ _ S)
  · walk_at "yn"
    exact k _ _ S
theorem ok_l_cell_at (T : Tx w K mg) : Ok P w K mg base 1 "_law_cell_at" ["script", "k"] (spY (φ_cell K)) :=
  Ok.of T.F_l_cell_at T.g_l_cell_at (fun _ _ _ _ _ _ us hl => match us, hl with | [_, _], _ => rfl) (fn_l_cell_at T)
theorem fn_l_well (T : Tx w K mg) (fd : FuncData) (F : FunD K "_law_well" "_law_well" (defArgs s_l_well) (defBody s_l_well) (defScope s_l_well) [] [] (He.ga K "_law_well") fd) : FnOk P w K mg base CX0 2 (He.ga K "_law_well") fd ["cell", "k"] (spY φ_bag) := by
  refine fnM F sc_l_well (fun B vs L k h => by obtain ⟨_, _, rfl, _⟩ := h; rfl) (fun cdv A outer s H vs Q E B L e hz he hr S h => ?_)
  obtain ⟨c, p, rfl, rfl, h0, h1, k⟩ := h
  refine ⟨_, (pss_cons (ps_set (i := 2) sc_l_well.nd rfl (.inl rfl) (pe_op (op_addU (K := K) rfl) (pe_op op_mulZ (pe_op op_modU (pv 0) pe_int) pe_int) (pv 1)))
      (pss_cons (ps_if (pt_cmpR op_geU (pv 0) (pe_op op_powU pe_int pe_int) (nomark _))
      (pss_one (ps_ret (pe_lst (pa_cons (pe_op op_subU (pv 0) (pe_op op_powU pe_int pe_int)) (pa_cons (pv 2) (pa_cons pe_int pa_nil))))))
      pss_nil)
      (pss_one (ps_ret (pe_lst (pa_cons (pe_callO (ok_l_stir (K := K) T) hr (by rfl) (pa_cons (pv 2) (pa_cons pe_int pa_nil))) (pa_cons (pv 2) (pa_cons pe_int pa_nil)))))))), ?_⟩
  walk_at "yn"
  have m1 := Int.emod_nonneg c (b := 7730990200000000000000000000000000000000229) (by decide)
  have m2 := Int.emod_lt_of_pos c (b := 7730990200000000000000000000000000000000229) (by decide)
  walk_at "yy"
  refine y_powI (pow_ok (b := 4) (by decide) (by decide) (by decide) (by decide) (by decide)) ?_
  walk_at "yy"
  refine y_ite (fun hc => ?_) (fun hc => ?_)
  · walk_at "yn"
    refine y_powI (pow_ok (b := 4) (by decide) (by decide) (by decide) (by decide) (by decide)) ?_
    walk_at "yn"
    refine y_newM S fun q H h2 S => ?_
    walk_at "yn"
    exact k _ _ ⟨_, _, _, rfl, by omega, by omega, by omega, by omega⟩ _ S
  · walk_at "yn"
    refine y_stir S (by omega) (by omega) (by omega) (by omega) fun c H hc S => ?_
    walk_at "yn"
    refine y_newM S fun q H h2 S => ?_
    walk_at "yn"
    exact k _ _ ⟨_, _, _, rfl, by omega, by omega, by omega, by omega⟩ _ S
theorem ok_l_well (T : Tx w K mg) : Ok P w K mg base 2 "_law_well" ["cell", "k"] (spY φ_bag) :=
  Ok.of T.F_l_well T.g_l_well (fun _ _ _ _ _ _ us hl => match us, hl with | [_, _], _ => rfl) (fn_l_well T)

/-- a name that is none of these -/
def φ_new_name : Ph := fun B vs L k => ∃ (b : Addr) (o : HO) (a : Addr) (zs : List Str) (n : Nat), vs = [.ref b, .ref a] ∧ L = [(b, o), (a, .lst (zs.map V.str))] ∧ Bag (n + 14) o ∧ (∀ z ∈ zs, KeyS z) ∧ zs.length ≤ 20 ∧ ∀ z o' B', KeyS z → z ∉ zs → Bag n o' → Same B B' → k B' (.str z) [(b, o'), (a, .lst (zs.map V.str))]
theorem pr_strs : ∀ zs : List Str, Paired (At .str K B) (zs.map V.str) zs
  | [] => .nil
  | _ :: zs => .cons .str (pr_strs zs)
/-- the signs of the alphabet, each a text -/
def abc1 : List Str := (sg "abcdefghijklmnopqrstuvwxyz").map fun c => ⟨#[c]⟩
theorem abc1_nodup : abc1.Nodup := by unfold abc1; decide +kernel
theorem len_le_of {α : Type} [DecidableEq α] : ∀ {l m : List α}, l.Nodup → (∀ x ∈ l, x ∈ m) → l.length ≤ m.length
  | [], _, _, _ => Nat.zero_le _
  | x :: l, m, nd, h => by
    obtain ⟨h1, h2⟩ := List.nodup_cons.mp nd
    have hx : x ∈ m := h x List.mem_cons_self
    have := len_le_of (m := m.erase x) h2 fun y hy => (List.mem_erase_of_ne (fun z => h1 (by rw [← z]; exact hy))).mpr (h y (List.mem_cons_of_mem _ hy))
    rw [List.length_erase_of_mem hx] at this
    have : 0 < m.length := List.length_pos_of_mem hx
    rw [List.length_cons]
    omega
theorem abc1_out {zs : List Str} (h : zs.length ≤ 20) : ∃ x ∈ abc1, x ∉ zs := by
  by_cases c : ∃ x ∈ abc1, x ∉ zs
  · exact c
  · exfalso
    have h1 := len_le_of abc1_nodup fun x hx => Classical.byContradiction fun z => c ⟨x, hx, z⟩
    have h2 : abc1.length = 26 := by unfold abc1; decide +kernel
    omega
theorem abc1_key {x : Str} (h : x ∈ abc1) : KeyS x := by
  unfold abc1 at h
  obtain ⟨c, hc, rfl⟩ := List.mem_map.mp h
  exact ⟨⟨by rw [len_one]; decide, by rw [len_one]; decide⟩, .one (ltr_of hc)⟩
theorem dps_strs {H : Hp} : ∀ zs : List Str, DpAll K H (zs.map V.str) (zs.map PyData.str)
  | [] => .nil
  | z :: zs => .cons (.str z) (dps_strs zs)
theorem y_notInS {H : Hp} {Q : VK} {a : Addr} {z : Str} {zs : List Str} (h : SqL K H a (zs.map V.str)) (q : Q (.bl (!decide (z ∈ zs))) H) : rNotInZ K (.str z) (.ref a) H Q := by
  refine .inr ⟨.str z, zs.map .str, .str z, .inl (.lst h (dps_strs zs)), rfl, plainAll_of (fun d hd => by obtain ⟨x, _, rfl⟩ := List.mem_map.mp hd; rfl), by simp [PyData.depth], ?_⟩
  rw [show ((zs.map PyData.str).any fun d => PyData.eqv d (.str z)) = decide (z ∈ zs) from any_enc .str z zs, Bool.true_xor]
  exact q
theorem range_abc : (List.range 26).filterMap (fun i => abc1[i]?) = abc1 := by unfold abc1; decide +kernel
theorem abc1_at {i : Nat} (h : i < 26) : ∃ c, (sg "abcdefghijklmnopqrstuvwxyz")[i]? = some c ∧ abc1[i]? = some ⟨#[c]⟩ ∧ 97 ≤ c ∧ c ≤ 122 := by
  obtain ⟨c, hc⟩ : ∃ c, (sg "abcdefghijklmnopqrstuvwxyz")[i]? = some c := ⟨_, List.getElem?_eq_getElem (show i < (sg "abcdefghijklmnopqrstuvwxyz").length by rw [sg_len]; exact h)⟩
  exact ⟨c, hc, by unfold abc1; rw [List.getElem?_map, hc]; rfl, ltr_of (List.mem_of_getElem? hc)⟩
theorem fn_l_new_name (T : Tx w K mg) (fd : FuncData) (F : FunD K "_law_new_name" "_law_new_name" (defArgs s_l_new_name) (defBody s_l_new_name) (defScope s_l_new_name) [] [] (He.ga K "_law_new_name") fd) : FnOk P w K mg base CX0 3 (He.ga K "_law_new_name") fd ["well", "names"] (spY φ_new_name) := by
  refine fnM F sc_l_new_name (fun B vs L k h => by obtain ⟨_, _, _, _, _, rfl, _⟩ := h; rfl) (fun cdv A outer s H vs Q E B L e hz he hr S h => ?_)
  obtain ⟨bg, o, nm, zs, n, rfl, rfl, hb, hzs, hzl, k⟩ := h
  refine ⟨_, (pss_cons (ps_set (i := 2) sc_l_new_name.nd rfl (.inr rfl) pe_str)
      (pss_cons (ps_set (i := 3) sc_l_new_name.nd rfl (.inl rfl) (pe_callO (ok_l_draw (K := K) T) hr (by rfl) (pa_cons (pv 0) (pa_cons pe_int pa_nil))))
      (pss_cons (ps_set (i := 4) sc_l_new_name.nd rfl (.inl rfl) (pe_ix (ix_U (K := K) rfl (hu_of hr)) (pv 2) (pe_callO (ok_l_draw (K := K) T) hr (by rfl) (pa_cons (pv 0) (pa_cons pe_int pa_nil))) (fun _ _ => rfl)))
      (pss_cons (ps_set (i := 5) sc_l_new_name.nd rfl (.inl rfl) (pe_joinU (K := K) rfl pe_str (pe_lc (own := [("k", 9)]) (by rfl) sc_l_new_name.nd (pi_range1 (by rfl) T.n_range (pa_cons (pe_op (op_addU (K := K) rfl) pe_int (pe_callO (ok_l_draw (K := K) T) hr (by rfl) (pa_cons (pv 0) (pa_cons pe_int pa_nil)))) pa_nil)) (blkOk_by (own := [("k", 9)]) (N := ["well", "names", "letters", "pick", "letter", "name", "old", "at", "some", "k", "one"]) (sc := defScope s_l_new_name) (by decide +kernel)) (fun _ _ _ _ _ => (pg_name (i := 9) sc_l_new_name.nd rfl (.inl rfl))) (fun _ _ _ _ _ => pts_nil) (fun _ _ _ _ _ => (pe_ix (ix_U (K := K) rfl (hu_of hr)) (pv 2) (pe_callO (ok_l_draw (K := K) T) hr (by rfl) (pa_cons (pv 0) (pa_cons pe_int pa_nil))) (fun _ _ => rfl))))))
      (pss_cons (ps_if (PW.pt (pw_and (pt_cmpR op_gtU (pv 3) pe_int (nomark _)) (pw_and1 (pt_cmpR (op_neZ (K := K) rfl hr.units) (pv 1) (pe_lst pa_nil) (nomark _)))))
      (pss_cons (ps_set (i := 6) sc_l_new_name.nd rfl (.inl rfl) (pe_ix (ix_U (K := K) rfl (hu_of hr)) (pv 1) (pe_callO (ok_l_draw (K := K) T) hr (by rfl) (pa_cons (pv 0) (pa_cons (pe_callB (call_lenU (K := K) rfl) (by rfl) T.n_len (by decide +kernel) (pa_cons (pv 1) pa_nil)) pa_nil))) (fun _ _ => rfl)))
      (pss_cons (ps_set (i := 7) sc_l_new_name.nd rfl (.inl rfl) (pe_callO (ok_l_draw (K := K) T) hr (by rfl) (pa_cons (pv 0) (pa_cons (pe_op (op_addU (K := K) rfl) (pe_callB (call_lenU (K := K) rfl) (by rfl) T.n_len (by decide +kernel) (pa_cons (pv 6) pa_nil)) pe_int) pa_nil))))
      (pss_one (ps_set (i := 5) sc_l_new_name.nd rfl (.inl rfl) (pe_slice (sl_U (K := K) rfl) (pe_op (op_addU (K := K) rfl) (pe_op (op_addU (K := K) rfl) (pe_slice (sl_U (K := K) rfl) (pv 6) po_none (po_some (pv 7))) (pv 4)) (pe_slice (sl_U (K := K) rfl) (pv 6) (po_some (pe_op op_subU (pe_op (op_addU (K := K) rfl) (pv 7) (pv 3)) pe_int)) po_none)) po_none (po_some pe_int))))))
      pss_nil)
      (pss_cons (ps_set (i := 8) sc_l_new_name.nd rfl (.inl rfl) (pe_op (op_addU (K := K) rfl) (pe_op (op_addU (K := K) rfl) (pe_lst (pa_cons (pv 5) pa_nil)) (pe_lc (own := [("k", 9)]) (by rfl) sc_l_new_name.nd (pi_range1 (by rfl) T.n_range (pa_cons pe_int pa_nil)) (blkOk_by (own := [("k", 9)]) (N := ["well", "names", "letters", "pick", "letter", "name", "old", "at", "some", "k", "one"]) (sc := defScope s_l_new_name) (by decide +kernel)) (fun _ _ _ _ _ => (pg_name (i := 9) sc_l_new_name.nd rfl (.inl rfl))) (fun _ _ _ _ _ => pts_nil) (fun _ _ _ _ _ => (pe_ix (ix_U (K := K) rfl (hu_of hr)) (pv 2) (pv 9) (fun _ _ => rfl))))) (pe_lc (own := [("k", 9)]) (by rfl) sc_l_new_name.nd (pi_range1 (by rfl) T.n_range (pa_cons pe_int pa_nil)) (blkOk_by (own := [("k", 9)]) (N := ["well", "names", "letters", "pick", "letter", "name", "old", "at", "some", "k", "one"]) (sc := defScope s_l_new_name) (by decide +kernel)) (fun _ _ _ _ _ => (pg_name (i := 9) sc_l_new_name.nd rfl (.inl rfl))) (fun _ _ _ _ _ => pts_nil) (fun _ _ _ _ _ => (pe_op (op_addU (K := K) rfl) (pe_ix (ix_U (K := K) rfl (hu_of hr)) (pv 2) (pv 9) (fun _ _ => rfl)) (pe_ix (ix_U (K := K) rfl (hu_of hr)) (pv 2) (pv 9) (fun _ _ => rfl)))))))
      (pss_one (ps_ret (pe_ix (ix_U (K := K) rfl (hu_of hr)) (pe_lc (own := [("one", 10)]) (by rfl) sc_l_new_name.nd (pi_listK (K := K) rfl (pv 8)) (blkOk_by (own := [("one", 10)]) (N := ["well", "names", "letters", "pick", "letter", "name", "old", "at", "some", "k", "one"]) (sc := defScope s_l_new_name) (by decide +kernel)) (fun _ _ _ _ _ => (pg_name (i := 10) sc_l_new_name.nd rfl (.inl rfl))) (fun _ _ _ _ _ => (pts_one (pt_cmpR (op_notInZ (K := K) rfl hr.units) (pv 10) (pv 1) (by rfl)))) (fun _ _ _ _ _ => (pv 10))) pe_int (fun _ _ => rfl)))))))))), ?_⟩
  walk_at "yn"
  refine y_drawN 0 S rfl hb (by omega) (by omega) (by omega) fun pick o H pick0 pick1 hb S => ?_
  try simp only [List.set] at S
  walk_at "yn"
  refine y_drawN 0 S rfl hb (by omega) (by omega) (by omega) fun lt o H lt0 lt1 hb S => ?_
  try simp only [List.set] at S
  walk_at "yn"
  refine y_ixSM (by decide) (by omega) (by exact lt1) fun c hc _ => ?_
  have hc := ltr_of hc
  walk_at "yn"
  refine y_drawN 0 S rfl hb (by omega) (by omega) (by omega) fun m o H m0 m1 hb S => ?_
  try simp only [List.set] at S
  walk_at "yn"
  refine y_lcGen (K := K) .str (fun z => ∃ c, z = ⟨#[c]⟩ ∧ 97 ≤ c ∧ c ≤ 122) (fun i L => ∃ o, L = [(bg, o), (nm, .lst (zs.map V.str))] ∧ Bag (n + 11 - i) o) walk_range S (by omega) ⟨o, rfl, hb.mono (by omega)⟩ (fun _ _ _ _ _ _ _ _ _ => trivial) (fun i x B1 H1 H1' acc D L1 Kp Kn hi b1 hP S hy kp => ?_) (fun B1 H acc D L1 xs b1 hD hn hg hp hP S => ?_)
  · obtain ⟨rfl, rfl⟩ := hy
    obtain ⟨o, rfl, hb⟩ := hP
    walk_at "yn"
    refine y_drawN 1 S rfl hb (by omega) (by omega) (by omega) fun j o H j0 j1 hb S => ?_
    try simp only [List.set] at S
    walk_at "yn"
    refine y_ixSM (by decide) (by omega) (by exact j1) fun c hc _ => ?_
    exact kp _ _ _ _ _ ⟨c, rfl, ltr_of hc⟩ (Same.refl _) .str ⟨o, rfl, hb.mono (by omega)⟩ S
  obtain ⟨o, rfl, hb⟩ := hP
  obtain ⟨g1, g2⟩ := glue_letters (e := "") rfl hg
  have e1 := strs_of hp
  subst e1
  refine y_join (sqL (S.at 0 rfl)) (by rw [sum_one hg]; show xs.length + xs.length * 0 ≤ _; omega) ?_
  replace S := S.tail
  have hg3 : KeyS (Txt.join "" xs) := ⟨⟨by omega, by omega⟩, g2⟩
  revert hg3
  generalize Txt.join "" xs = name
  intro hname
  walk_at "yn"
  refine y_cutS (R := fun σ H => ∃ (B2 : Hp) (o : HO) (name : Str), (∃ (y3 y4 y6 y7 y8 y9 y10 : Option V), σ = [some (.ref bg), some (.ref nm), some (.str "abcdefghijklmnopqrstuvwxyz"), y3, y4, some (.str name), y6, y7, y8, y9, y10]) ∧ KeyS name ∧ Same B B2 ∧ Bag n o ∧ Sy e B2 H [(bg, o), (nm, .lst (zs.map V.str))]) (fun nx' hnx => ?_) (fun σ H hR => ?_)
  · refine y_ifS ?_
    refine y_cutT (R := fun b H => (b = true → 0 < pick ∧ zs ≠ []) ∧ Sy e B1 H [(bg, o), (nm, .lst (zs.map V.str))]) (fun Q' hQ => ?_) (fun bc H hR => ?_)
    · walk_at "yy"
      refine y_ite (fun h => ?_) (fun h => ?_)
      · walk_at "yy"
        refine y_newM S fun q H hq0 S => ?_
        walk_at "yn"
        refine z_neE (sqL (S.at 2 rfl)) (sqL (S.at 0 rfl)) ?_
        walk_at "yy"
        exact hQ _ _ ⟨fun h2 => ⟨h, fun z => by rw [z] at h2; simp at h2⟩, S.tail⟩
      · walk_at "yy"
        exact hQ _ _ ⟨fun h2 => (by cases h2), S⟩
    obtain ⟨h1, S⟩ := hR
    refine y_iteB (fun h2 => ?_) (fun h2 => ?_)
    · obtain ⟨h3, h4⟩ := h1 h2
      have h5 : 0 < zs.length := List.length_pos_iff.mpr h4
      walk_at "yy"
      rw [List.length_map]
      refine y_drawN 0 S rfl hb (by omega) (by omega) (by omega) fun j o H j0 j1 hb S => ?_
      try simp only [List.set] at S
      walk_at "yn"
      refine y_ixM (sqL (S.at 1 rfl)) (by omega) (by rw [List.length_map]; omega) fun v hv => ?_
      obtain ⟨old, hold, rfl⟩ := List.mem_map.mp hv
      have hk := hzs old hold
      have hk1 := hk.1.1
      have hk2 := hk.1.2
      walk_at "yn"
      refine y_drawN 0 S rfl hb (by omega) (by omega) (by omega) fun at_ o H at_0 at_1 hb S => ?_
      try simp only [List.set] at S
      walk_at "yn"
      refine y_addS (lenOk (by rw [len_one]; have := len_cut old none (some at_); omega)) ?_
      walk_at "yn"
      have l1 := len_cutTo old (i := at_) (by omega)
      have l2 := len_cut old (some (at_ + pick - 1)) none
      refine y_addS (lenOk (by rw [len_app, len_one]; omega)) ?_
      have hL : Letters (cutS old none (some at_) ++ ⟨#[c]⟩ ++ cutS old (some (at_ + pick - 1)) none) := (hk.2.cut.app (.one hc)).app hk.2.cut
      have l3 : 1 ≤ (cutS old none (some at_) ++ ⟨#[c]⟩ ++ cutS old (some (at_ + pick - 1)) none).length := by rw [len_app, len_app, len_one]; omega
      have l5 : (cutS old none (some at_) ++ ⟨#[c]⟩ ++ cutS old (some (at_ + pick - 1)) none).length ≤ 17 := by rw [len_app, len_app, len_one]; omega
      revert hL l3 l5
      generalize cutS old none (some at_) ++ ⟨#[c]⟩ ++ cutS old (some (at_ + pick - 1)) none = long
      intro hL l3 l5
      walk_at "yn"
      have l4 := len_cutTo long (i := 8) (by decide)
      refine hnx _ _ ⟨B1, o, _, ⟨_, _, _, _, _, _, _, rfl⟩, ⟨⟨by omega, by omega⟩, hL.cut⟩, b1, hb.mono (by omega), S⟩
    · walk_at "yy"
      exact hnx _ _ ⟨B1, o, name, ⟨_, _, _, _, _, _, _, rfl⟩, hname, b1, hb.mono (by omega), S⟩
  clear S hname name hp hg hD
  obtain ⟨B2, o, name, ⟨y3, y4, y6, y7, y8, y9, y10, rfl⟩, hname, b2, hb, S⟩ := hR
  walk_at "yn"
  refine y_newI S fun q1 B1 H bS hq1 hq10 S => ?_
  walk_at "yn"
  refine y_lcRel (At .str K) at_up walk_range S (by decide) (fun i => abc1[i]?) (fun _ _ _ _ _ _ => trivial) (fun i x B3 H3 H3' acc D Kp Kn hi b3 S hy kp kn => ?_) (fun B3 H acc D b3 hD hp S => ?_)
  · obtain ⟨rfl, rfl⟩ := hy
    obtain ⟨c, hc1, hc2, _⟩ := abc1_at (i := i) (by omega)
    walk_at "yn"
    refine y_ixS (lenOk (by decide)) (atI_of (by omega) (by rw [show ((0 : Int) + (i : Nat)).toNat = i by omega]; exact hc1)) ?_
    exact kp _ _ _ _ hc2 (Same.refl _) .str S
  rw [show (26 : Int).toNat = 26 from rfl, range_abc] at hp
  have e1 := strs_of hp
  subst e1
  obtain ⟨B4, b4, hD4, S⟩ := S.frz 0 rfl hD
  try simp only [List.eraseIdx] at S
  refine y_catL S (S.lst (b4 _ _ (b3 _ _ hq1))) (S.lst hD4) (lenOk (by rw [List.length_map, show abc1.length = 26 by unfold abc1; decide +kernel]; simp)) ?_
  refine y_newI S fun q2 B1 H bS hq2 hq20 S => ?_
  walk_at "yn"
  refine y_lcGen (K := K) .str (fun z => KeyS z) (fun i L => L = [(bg, o), (nm, .lst (zs.map V.str))]) walk_range S (by decide) rfl (fun _ _ _ _ _ _ _ _ _ => trivial) (fun i x B5 H5 H5' acc D L1 Kp Kn hi b5 hP S hy kp => ?_) (fun B5 H acc D L1 xs2 b5 hD2 hn hg hp2 hP S => ?_)
  · obtain ⟨rfl, rfl⟩ := hy
    subst hP
    obtain ⟨c, hc1, hc2, hc3⟩ := abc1_at (i := i) (by omega)
    walk_at "yn"
    refine y_ixS (lenOk (by decide)) (atI_of (by omega) (by rw [show ((0 : Int) + (i : Nat)).toNat = i by omega]; exact hc1)) ?_
    walk_at "yn"
    refine y_ixS (lenOk (by decide)) (atI_of (by omega) (by rw [show ((0 : Int) + (i : Nat)).toNat = i by omega]; exact hc1)) ?_
    refine y_addS (lenOk (by rw [len_one]; decide)) ?_
    exact kp _ _ _ _ _ ⟨⟨by rw [len_app, len_one]; decide, by rw [len_app, len_one]; decide⟩, (Letters.one hc3).app (.one hc3)⟩ (Same.refl _) .str rfl S
  subst hP
  have e1 := strs_of hp2
  subst e1
  obtain ⟨B6, b6, hD6, S⟩ := S.frz 0 rfl hD2
  try simp only [List.eraseIdx] at S
  refine y_catL S (S.lst (b6 _ _ (b5 _ _ hq2))) (S.lst hD6) (lenOk (by rw [List.length_append, List.length_map, List.length_map, show abc1.length = 26 by unfold abc1; decide +kernel, hn]; simp)) ?_
  refine y_newI S fun q3 B1 H bS hq3 hq30 S => ?_
  walk_at "yn"
  have hq3 : At (.list .str) K _ (.ref q3) ([name] ++ abc1 ++ xs2) := .list (sqL hq3) (by
    rw [show [V.str name] ++ abc1.map V.str ++ xs2.map V.str = ([name] ++ abc1 ++ xs2).map V.str by simp]
    exact pr_strs _)
  have hall : ∀ z ∈ [name] ++ abc1 ++ xs2, KeyS z := fun z hz => by
    rcases List.mem_append.mp hz with hz | hz
    · rcases List.mem_append.mp hz with hz | hz
      · rw [List.mem_singleton.mp hz]; exact hname
      · exact abc1_key hz
    · exact hg z hz
  refine y_lcI (cx := .str) (cy := .str) (fun z => if z ∈ zs then none else some z) S hq3 (by simp [hn, show abc1.length = 26 by unfold abc1; decide +kernel]) (fun i z x B7 H7 D acc Kp Kn hz b7 hx S kp kn => ?_) (fun D B7 H b7 hD7 hl S => ?_)
  · have e1 := at_str hx
    subst e1
    walk_at "yn"
    refine y_notInS (sqL (S.at 2 rfl)) ?_
    walk_at "yn"
    refine y_iteN (fun h => ?_) (fun h => ?_)
    · walk_at "yn"
      exact kp _ _ _ _ (if_neg h) (Same.refl _) .str S
    · exact kn _ _ (if_pos h) (Same.refl _) S
  obtain ⟨x0, hx0, hx1⟩ := abc1_out hzl
  have hpos : 0 < (([name] ++ abc1 ++ xs2).filterMap fun z => if z ∈ zs then none else some z).length := List.length_pos_of_mem (a := x0) (List.mem_filterMap.mpr ⟨x0, List.mem_append_left _ (List.mem_append_right _ hx0), if_neg hx1⟩)
  walk_at "yn"
  refine y_ixC S hl (by decide) (by omega) fun v z hz hv => ?_
  have e1 := at_str hv
  subst e1
  obtain ⟨z', hz1, hz2⟩ := List.mem_filterMap.mp (List.mem_of_getElem? hz)
  by_cases c : z' ∈ zs
  · rw [if_pos c] at hz2; cases hz2
  · rw [if_neg c] at hz2
    cases hz2
    exact k _ _ _ (hall _ hz1) c hb (by walk_at "up") _ S
theorem ok_l_new_name (T : Tx w K mg) : Ok P w K mg base 3 "_law_new_name" ["well", "names"] (spY φ_new_name) :=
  Ok.of T.F_l_new_name T.g_l_new_name (fun _ _ _ _ _ _ us hl => match us, hl with | [_, _], _ => rfl) (fn_l_new_name T)

/-! ### what the program has of a history -/
abbrev cW (K : PySem.W.Frag) : Addr := He.ga K "Witness"
abbrev cD (K : PySem.W.Frag) : Addr := He.ga K "Doer"
structure Dr where
  d : Int
  since : Int
  i : Addr
  dx : Addr
  a : Addr
  vs : List V
  ws : Wr
def Dr.op (p : Dr) : Op := ⟨p.d, p.since, p.ws⟩
def drK (ds : List Dr) : List (Key × V) := ds.map fun p => (.inl p.d, .ref p.i)
abbrev drO (K : PySem.W.Frag) (p : Dr) : HO := .ins (cD K) p.dx [("since", .int p.since), ("writes", .ref p.a)]
def drL (K : PySem.W.Frag) : List Dr → Led
  | [] => []
  | p :: ds => (p.i, drO K p) :: (p.a, .lst p.vs) :: drL K ds
structure WA where
  wt : Addr
  dw : Addr
  a1 : Addr
  a2 : Addr
  a3 : Addr
  sv : List V
  kv : List V
  ds : List Dr
abbrev wtO (K : PySem.W.Frag) (x : WA) (b : Int) : HO := .ins (cW K) x.dw [("base", .int b), ("sheets", .ref x.a1), ("keepers", .ref x.a2), ("doers", .ref x.a3)]
abbrev wtL (K : PySem.W.Frag) (x : WA) (b : Int) : Led := (x.wt, wtO K x b) :: (x.a1, .lst x.sv) :: (x.a2, .lst x.kv) :: (x.a3, .dK (drK x.ds)) :: drL K x.ds
structure WtOk (K : PySem.W.Frag) (B : Hp) (U : List Str) (x : WA) (s : AS) : Prop where
  sl : x.sv.length = s.kept.length + 1
  sh : ∀ (i : Nat) v, x.sv[i]? = some v → ∃ d kvs, v = .ref d ∧ B d = some (.dK kvs) ∧ SheetOk U kvs (s.sheet i)
  kp : Paired (At (.tup2 .int cS) K B) x.kv (s.kept.map fun p => (p.1, p.2.map (·.1)))
  op : s.opn = x.ds.map Dr.op
  ws : ∀ p ∈ x.ds, Paired (At wC K B) p.vs p.ws
theorem WtOk.up {B B' : Hp} {U : List Str} {x : WA} {s : AS} (b : Same B B') (h : WtOk K B U x s) : WtOk K B' U x s :=
  ⟨h.sl, fun i v hv => by
    obtain ⟨d, kvs, e, hd, hs⟩ := h.sh i v hv
    exact ⟨d, kvs, e, b _ _ hd, hs⟩, pr_up at_up b h.kp, h.op, fun p hp => pr_up at_up b (h.ws p hp)⟩
theorem drL_append (ds es : List Dr) : drL K (ds ++ es) = drL K ds ++ drL K es := by
  induction ds with
  | nil => rfl
  | cons p ds ih => show _ :: _ :: drL K (ds ++ es) = _ :: _ :: (drL K ds ++ drL K es); rw [ih]
theorem drL_mem {ds : List Dr} {p : Dr} (h : p ∈ ds) : (p.i, drO K p) ∈ drL K ds ∧ (p.a, HO.lst p.vs) ∈ drL K ds := by
  induction ds with
  | nil => cases h
  | cons q ds ih =>
    rcases List.mem_cons.mp h with rfl | h
    · exact ⟨List.mem_cons_self, List.mem_cons_of_mem _ List.mem_cons_self⟩
    · exact ⟨List.mem_cons_of_mem _ (List.mem_cons_of_mem _ (ih h).1), List.mem_cons_of_mem _ (List.mem_cons_of_mem _ (ih h).2)⟩
theorem wtL_mem {x : WA} {b : Int} {p : Dr} (h : p ∈ x.ds) : (p.i, drO K p) ∈ wtL K x b ∧ (p.a, HO.lst p.vs) ∈ wtL K x b := by
  obtain ⟨h1, h2⟩ := drL_mem (K := K) h
  exact ⟨by simp only [List.mem_cons]; exact .inr (.inr (.inr (.inr h1))), by simp only [List.mem_cons]; exact .inr (.inr (.inr (.inr h2)))⟩
theorem drL_at {ds : List Dr} {j : Nat} {p : Dr} (h : ds[j]? = some p) : (drL K ds)[2 * j]? = some (p.i, drO K p) ∧ (drL K ds)[2 * j + 1]? = some (p.a, .lst p.vs) := by
  induction ds generalizing j with
  | nil => cases h
  | cons q ds ih =>
    cases j with
    | zero => cases h; exact ⟨rfl, rfl⟩
    | succ j =>
      obtain ⟨h1, h2⟩ := ih (j := j) h
      exact ⟨by rw [show 2 * (j + 1) = 2 * j + 1 + 1 by omega]; exact h1, by rw [show 2 * (j + 1) + 1 = 2 * j + 1 + 1 + 1 by omega]; exact h2⟩
theorem drL_set {ds : List Dr} {j : Nat} {p q : Dr} (h : ds[j]? = some p) : drL K (ds.set j q) = ((drL K ds).set (2 * j) (q.i, drO K q)).set (2 * j + 1) (q.a, .lst q.vs) := by
  induction ds generalizing j with
  | nil => cases h
  | cons r ds ih =>
    cases j with
    | zero => rfl
    | succ j =>
      rw [show 2 * (j + 1) = 2 * j + 1 + 1 by omega, show 2 * j + 1 + 1 + 1 = (2 * j + 1) + 1 + 1 by omega]
      show _ :: _ :: drL K (ds.set j q) = _ :: _ :: (((drL K ds).set (2 * j) _).set (2 * j + 1) _)
      rw [ih (j := j) h]
theorem drL_sub {ds es : List Dr} (h : ds.Sublist es) : (drL K ds).Sublist (drL K es) := by
  induction h with
  | slnil => exact List.Sublist.refl _
  | cons a _ ih => exact (ih.cons _).cons _
  | cons_cons a _ ih => exact (ih.cons_cons _).cons_cons _
theorem drK_val {ds : List Dr} {p : Dr} (nd : (ds.map (·.d)).Nodup) (h : p ∈ ds) : valV (drK ds) (.inl p.d) = some (.ref p.i) := by
  induction ds with
  | nil => cases h
  | cons q ds ih =>
    rw [List.map_cons, List.nodup_cons] at nd
    show valV ((Sum.inl q.d, V.ref q.i) :: drK ds) _ = _
    by_cases c : q.d = p.d
    · rw [valV_pos (show (Sum.inl q.d : Key) = .inl p.d by rw [c])]
      rcases List.mem_cons.mp h with rfl | h
      · rfl
      · exact absurd (List.mem_map.mpr ⟨p, h, c.symm⟩) nd.1
    · rw [valV_neg (show ¬ (Sum.inl q.d : Key) = .inl p.d from fun z => c (Sum.inl.inj z))]
      rcases List.mem_cons.mp h with rfl | h
      · exact absurd rfl c
      · exact ih nd.2 h
theorem drK_none {ds : List Dr} {d : Int} (h : ∀ p ∈ ds, p.d ≠ d) : valV (drK ds) (.inl d) = none := by
  induction ds with
  | nil => rfl
  | cons q ds ih =>
    show valV ((Sum.inl q.d, V.ref q.i) :: drK ds) _ = _
    rw [valV_neg (show ¬ (Sum.inl q.d : Key) = .inl d from fun z => h q List.mem_cons_self (Sum.inl.inj z))]
    exact ih fun p hp => h p (List.mem_cons_of_mem _ hp)
theorem drK_drop {ds : List Dr} {d : Int} : dropK (drK ds) (.inl d) = drK (ds.filter fun p => !decide (p.d = d)) := by
  unfold dropK drK
  rw [List.filter_map]
  congr 1
  apply List.filter_congr
  intro p _
  show decide (¬ (Sum.inl p.d : Key) = .inl d) = !decide (p.d = d)
  rw [← decide_not, decide_eq_decide]
  exact ⟨fun h z => h (by rw [z]), fun h z => h (Sum.inl.inj z)⟩
theorem WtOk.find {B : Hp} {U : List Str} {x : WA} {s : AS} (h : WtOk K B U x s) (nd : (s.opn.map (·.d)).Nodup) (d : Int) : (s.find d = none ∧ valV (drK x.ds) (.inl d) = none) ∨ ∃ (p : Dr) (j : Nat), x.ds[j]? = some p ∧ p.d = d ∧ s.find d = some p.op ∧ valV (drK x.ds) (.inl d) = some (.ref p.i) := by
  have nd2 : (x.ds.map (·.d)).Nodup := by
    have := nd
    rw [h.op, List.map_map] at this
    exact this
  cases q : s.find d with
  | none =>
    refine .inl ⟨rfl, drK_none fun p hp e => ?_⟩
    exact AS.find_none q p.op (by rw [h.op]; exact List.mem_map.mpr ⟨p, hp, rfl⟩) e
  | some o =>
    obtain ⟨h1, h2⟩ := AS.find_mem q
    rw [h.op] at h1
    obtain ⟨p, hp, rfl⟩ := List.mem_map.mp h1
    obtain ⟨j, hj⟩ := List.mem_iff_getElem?.mp hp
    have h2 : p.d = d := h2
    exact .inr ⟨p, j, hj, h2, rfl, by rw [← h2]; exact drK_val nd2 hp⟩
theorem Sy.swapIn {e : En} {B H : Hp} {L : Led} {q q' : Addr × HO} (n : Nat) (S : Sy e B H (q' :: L)) (h : L[n]? = some q) : Sy e B H (L.set n q') :=
  (S.sub ((List.eraseIdx_sublist L n).cons_cons q')).perm (led_unerase h q')
theorem at_optI {B : Hp} {v : V} {w : Option Int} (h : At .optI K B v w) : v = wV w := by
  cases w with
  | none => have h : Dp K B v .none := h; cases h; rfl
  | some i => have h : Dp K B v (.int i) := h; cases h; rfl
theorem atOptI {B : Hp} (w : Option Int) : At .optI K B (wV w) w := by
  cases w with
  | none => exact Dp.non
  | some i => exact Dp.int i
def φ_winit (K : PySem.W.Frag) : Ph := fun B vs L k => ∃ (x dx : Addr), vs = [.ref x] ∧ L = [(x, .ins (cW K) dx [])] ∧ ∀ wa B', Same B B' → wa.wt = x → (∀ U, WtOk K B' U wa AS.init) → k B' .non (wtL K wa 0)
theorem fn_Witness___init__ (T : Tx w K mg) (fd : FuncData) (F : FunD K "__init__" "Witness.__init__" (defArgs s_Witness___init__) (defBody s_Witness___init__) (defScope s_Witness___init__) [] [] (He.ma K (He.ga K "Witness") "__init__") fd) : FnOk P w K mg base CX0 1 (He.ma K (He.ga K "Witness") "__init__") fd ["self"] (spY (φ_winit K)) := by
  refine fnM F sc_Witness___init__ (fun B vs L k h => by obtain ⟨_, _, rfl, _⟩ := h; rfl) (fun cdv A outer s H vs Q E B L e hz he hr S h => ?_)
  obtain ⟨x, dx, rfl, rfl, k⟩ := h
  refine ⟨_, (pss_cons (ps_fldC T.cl_Witness T.na_Witness_base (pv 0) pe_int)
      (pss_cons (ps_fldC T.cl_Witness T.na_Witness_sheets (pv 0) (pe_lst (pa_cons pe_dnewK pa_nil)))
      (pss_cons (ps_fldC T.cl_Witness T.na_Witness_keepers (pv 0) (pe_lst pa_nil))
      (pss_one (ps_fldC T.cl_Witness T.na_Witness_doers (pv 0) pe_dnewK))))), ?_⟩
  walk_at "yn"
  refine y_sfldK 0 S rfl (Nat.le_of_ble_eq_true rfl) rfl fun H S => ?_
  try simp only [List.set] at S
  walk_at "yn"
  refine y_newI S fun d0 B1 H b1 hd0 _ S => ?_
  walk_at "yn"
  refine y_newM S fun a1 H ha10 S => ?_
  walk_at "yn"
  refine y_sfldK 1 S rfl (Nat.le_of_ble_eq_true rfl) rfl fun H S => ?_
  try simp only [List.set] at S
  walk_at "yn"
  refine y_newM S fun a2 H ha20 S => ?_
  walk_at "yn"
  refine y_sfldK 2 S rfl (Nat.le_of_ble_eq_true rfl) rfl fun H S => ?_
  try simp only [List.set] at S
  walk_at "yn"
  refine y_newM S fun a3 H ha30 S => ?_
  walk_at "yn"
  refine y_sfldK 3 S rfl (Nat.le_of_ble_eq_true rfl) rfl fun H S => ?_
  try simp only [List.set] at S
  walk_at "yn"
  replace S : Sy _ _ _ [_, _, _, _] := S.ix [3, 2, 1, 0] (n := 4) rfl (by decide)
  refine k ⟨x, dx, a1, a2, a3, [.ref d0], [], []⟩ B1 b1 rfl (fun U => ⟨rfl, fun i v hv => ?_, .nil, rfl, fun p hp => (by cases hp)⟩) _ S
  cases i with
  | zero => cases hv; exact ⟨d0, [], rfl, hd0, (SheetOk.nil U).congr fun key => rfl⟩
  | succ i => cases hv
theorem okm_Witness___init__ (T : Tx w K mg) : OkM P w K mg base (He.ga K "Witness") 1 "__init__" ["self"] [] (spY (φ_winit K)) :=
  OkM.of T.F_Witness___init__ T.me_Witness___init__ (fun _ _ _ _ _ _ us hl => match us, hl with | [_], _ => rfl) (fn_Witness___init__ T)
theorem oki_Witness (T : Tx w K mg) : OkI P w K mg base (He.ga K "Witness") 1 "Witness" ["self"] [] (spY (φ_winit K)) := (okm_Witness___init__ T).mk T.mk_Witness T.g_Witness
def φ_wlast (K : PySem.W.Frag) : Ph := fun B vs L k => ∃ (x : WA) (s : AS) (U : List Str), vs = [.ref x.wt] ∧ L = wtL K x s.base ∧ WtOk K B U x s ∧ k B (.int s.places) (wtL K x s.base)
theorem fn_Witness_last_place (T : Tx w K mg) (fd : FuncData) (F : FunD K "last_place" "Witness.last_place" (defArgs s_Witness_last_place) (defBody s_Witness_last_place) (defScope s_Witness_last_place) [] [] (He.ma K (He.ga K "Witness") "last_place") fd) : FnOk P w K mg base CX0 1 (He.ma K (He.ga K "Witness") "last_place") fd ["self"] (spY (φ_wlast K)) := by
  refine fnM F sc_Witness_last_place (fun B vs L k h => by obtain ⟨_, _, _, rfl, _⟩ := h; rfl) (fun cdv A outer s H vs Q E B L e hz he hr S h => ?_)
  obtain ⟨x, s1, U, rfl, rfl, ok, k⟩ := h
  refine ⟨_, (pss_one (ps_ret (pe_op (op_addU (K := K) rfl) (pe_fldC T.cl_Witness T.na_Witness_base (pv 0)) (pe_callB (call_lenU (K := K) rfl) (by rfl) T.n_len (by decide +kernel) (pa_cons (pe_fldC T.cl_Witness T.na_Witness_keepers (pv 0)) pa_nil))))), ?_⟩
  walk_at "yn"
  have hkl := ok.kp.length
  rw [List.length_map] at hkl
  rw [hkl]
  exact k _ S
theorem okm_Witness_last_place (T : Tx w K mg) : OkM P w K mg base (He.ga K "Witness") 1 "last_place" ["self"] [] (spY (φ_wlast K)) :=
  OkM.of T.F_Witness_last_place T.me_Witness_last_place (fun _ _ _ _ _ _ us hl => match us, hl with | [_], _ => rfl) (fn_Witness_last_place T)
def φ_dinit (K : PySem.W.Frag) : Ph := fun B vs L k => ∃ (x dx : Addr) (n : Int), vs = [.ref x, .int n] ∧ L = [(x, .ins (cD K) dx [])] ∧ ∀ a, k B .non [(x, .ins (cD K) dx [("since", .int n), ("writes", .ref a)]), (a, .lst [])]
theorem fn_Doer___init__ (T : Tx w K mg) (fd : FuncData) (F : FunD K "__init__" "Doer.__init__" (defArgs s_Doer___init__) (defBody s_Doer___init__) (defScope s_Doer___init__) [] [] (He.ma K (He.ga K "Doer") "__init__") fd) : FnOk P w K mg base CX0 1 (He.ma K (He.ga K "Doer") "__init__") fd ["self", "since"] (spY (φ_dinit K)) := by
  refine fnM F sc_Doer___init__ (fun B vs L k h => by obtain ⟨_, _, _, rfl, _⟩ := h; rfl) (fun cdv A outer s H vs Q E B L e hz he hr S h => ?_)
  obtain ⟨x, dx, n, rfl, rfl, k⟩ := h
  refine ⟨_, (pss_cons (ps_fldC T.cl_Doer T.na_Doer_since (pv 0) (pv 1))
      (pss_one (ps_fldC T.cl_Doer T.na_Doer_writes (pv 0) (pe_lst pa_nil)))), ?_⟩
  walk_at "yn"
  refine y_sfldK 0 S rfl (Nat.le_of_ble_eq_true rfl) rfl fun H S => ?_
  try simp only [List.set] at S
  walk_at "yn"
  refine y_newM S fun a H ha0 S => ?_
  walk_at "yn"
  refine y_sfldK 1 S rfl (Nat.le_of_ble_eq_true rfl) rfl fun H S => ?_
  try simp only [List.set] at S
  walk_at "yn"
  replace S : Sy _ _ _ [_, _] := S.ix [1, 0] (n := 2) rfl (by decide)
  exact k a _ S
theorem okm_Doer___init__ (T : Tx w K mg) : OkM P w K mg base (He.ga K "Doer") 1 "__init__" ["self", "since"] [] (spY (φ_dinit K)) :=
  OkM.of T.F_Doer___init__ T.me_Doer___init__ (fun _ _ _ _ _ _ us hl => match us, hl with | [_, _], _ => rfl) (fn_Doer___init__ T)
theorem oki_Doer (T : Tx w K mg) : OkI P w K mg base (He.ga K "Doer") 1 "Doer" ["self", "since"] [] (spY (φ_dinit K)) := (okm_Doer___init__ T).mk T.mk_Doer T.g_Doer

theorem take_get {α : Type} {l : List α} {i : Nat} {x : α} (h : l[i]? = some x) : l.take (i + 1) = l.take i ++ [x] := by rw [List.take_add_one, h]; rfl
theorem wsGet_step {ws : Wr} {i : Nat} {p : Str × Option Int} (h : ws[i]? = some p) (key : Str) (w0 : Option Int) : wsGet (ws.take (i + 1)) key w0 = if key = p.1 then p.2 else wsGet (ws.take i) key w0 := by
  rw [take_get h, wsGet_append]
  show (if p.1 = key then p.2 else _) = _
  by_cases c : p.1 = key
  · rw [if_pos c, if_pos c.symm]
  · rw [if_neg c, if_neg fun z => c z.symm]
theorem wAt {B : Hp} {v : V} {p : Str × Option Int} (h : At wC K B v p) : ∃ t, v = .ref t ∧ SqT K B t [.str p.1, wV p.2] := by
  obtain ⟨t, v1, v2, rfl, ht, h1, h2⟩ := at_tup2 h
  rw [at_str h1, at_optI h2] at ht
  exact ⟨t, rfl, ht⟩
theorem filter_take_step {kvs : List (Key × V)} {i : Nat} {kv : Key × V} (h : kvs[i]? = some kv) (p : Key × V → Bool) : (kvs.take (i + 1)).filter p = (kvs.take i).filter p ++ if p kv = true then [kv] else [] := by
  rw [take_get h, List.filter_append]
  congr 1
  by_cases c : p kv = true
  · rw [if_pos c]; simp [c]
  · rw [if_neg c]; simp [c]
theorem put_fresh {kvs : List (Key × V)} (nd : (kvs.map (·.1)).Nodup) {i : Nat} {kv : Key × V} (h : kvs[i]? = some kv) (p : Key × V → Bool) : putK ((kvs.take i).filter p) kv.1 kv.2 = (kvs.take i).filter p ++ [kv] := by
  rw [putK_new]
  cases q : valV ((kvs.take i).filter p) kv.1 with
  | none => rfl
  | some v =>
    exfalso
    obtain ⟨r, hr, e⟩ := List.mem_map.mp (valV_in q)
    have hr := (List.mem_filter.mp hr).1
    have nd2 : ((kvs.take (i + 1)).map (·.1)).Nodup := nd.sublist ((List.take_sublist _ _).map _)
    rw [take_get h, List.map_append] at nd2
    exact (List.nodup_append.mp nd2).2.2 r.1 (List.mem_map.mpr ⟨r, hr, rfl⟩) kv.1 (List.mem_singleton_self _) e
def φ_view (K : PySem.W.Frag) : Ph := fun B vs L k => ∃ (x : WA) (s : AS) (U : List Str) (n : Nat) (p : Dr), vs = [.ref x.wt, .ref p.i] ∧ L = wtL K x s.base ∧ WtOk K B U x s ∧ AS.Ok U n s ∧ U.length ≤ 100 ∧ n ≤ 1000 ∧ p ∈ x.ds ∧
  ∀ d kvs B', Same B B' → B' d = some (.dK kvs) → SheetOk U kvs (s.sees p.op) → (∀ kv ∈ kvs, ∃ i, kv.2 = .int i) → k B' (.ref d) (wtL K x s.base)
theorem fn_view_of (T : Tx w K mg) (fd : FuncData) (F : FunD K "view_of" "view_of" (defArgs s_view_of) (defBody s_view_of) (defScope s_view_of) [] [] (He.ga K "view_of") fd) : FnOk P w K mg base CX0 1 (He.ga K "view_of") fd ["witness", "doer"] (spY (φ_view K)) := by
  refine fnM F sc_view_of (fun B vs L k h => by obtain ⟨_, _, _, _, _, rfl, _⟩ := h; rfl) (fun cdv A outer s H vs Q E B L e hz he hr S h => ?_)
  obtain ⟨x, s1, U, n, p, rfl, rfl, ok, aok, hU, hn, hp, k⟩ := h
  refine ⟨_, (pss_cons (ps_set (i := 2) sc_view_of.nd rfl (.inl rfl) (pe_callTy (call_dictU (K := K) rfl rfl) (by rfl) T.n_dict (by decide +kernel) (pa_cons (pe_ix (ix_U (K := K) rfl (hu_of hr)) (pe_fldC T.cl_Witness T.na_Witness_sheets (pv 0)) (pe_op op_subU (pe_fldC T.cl_Doer T.na_Doer_since (pv 1)) (pe_fldC T.cl_Witness T.na_Witness_base (pv 0))) (fun _ _ => rfl)) pa_nil)))
      (pss_cons (ps_for PassesOwn.never rfl (pi_listK (K := K) rfl (pe_fldC T.cl_Doer T.na_Doer_writes (pv 1))) (pg_tupK (K := K) (n := 2) rfl rfl (pgs_cons (pg_name (i := 3) sc_view_of.nd rfl (.inl rfl)) (pgs_cons (pg_name (i := 4) sc_view_of.nd rfl (.inl rfl)) pgs_nil)))
      (pss_one (ps_asg (pv 4) (pg_sub (pv 2) (pv 3) (set_U (hu_of hr))))))
      (pss_one (ps_ret (pe_lock (pe_dc (own := [("key", 3), ("worth", 4)]) (by rfl) sc_view_of.nd (pi_items (pv 2)) (blkOk_by (own := [("key", 3), ("worth", 4)]) (N := ["witness", "doer", "found", "key", "worth"]) (sc := defScope s_view_of) (by decide +kernel)) (fun _ _ _ _ _ => (pg_tupK (K := K) (n := 2) rfl rfl (pgs_cons (pg_name (i := 3) sc_view_of.nd rfl (.inl rfl)) (pgs_cons (pg_name (i := 4) sc_view_of.nd rfl (.inl rfl)) pgs_nil)))) (fun _ _ _ _ _ => (pts_one (pt_cmpR op_isnotU (pv 4) pe_non (nomark _)))) (fun _ _ _ _ _ => (pv 3)) (fun _ _ _ _ _ => (pv 4)))))))), ?_⟩
  walk_at "yn"
  obtain ⟨m1, m2⟩ := wtL_mem (K := K) (b := s1.base) hp
  have hop : p.op ∈ s1.opn := by rw [ok.op]; exact List.mem_map.mpr ⟨p, hp, rfl⟩
  obtain ⟨st0, st1⟩ := aok.st _ hop
  have st0 : s1.base ≤ p.since := st0
  have st1 : p.since ≤ s1.base + (s1.kept.length : Nat) := st1
  have hsl := ok.sl
  have hvp := ok.ws p hp
  have hvl : p.vs.length = p.ws.length := hvp.length
  have hwl : p.ws.length ≤ n := aok.wl _ hop
  have hwu : ∀ q ∈ p.ws, q.1 ∈ U := aok.wu _ hop
  obtain ⟨v, hv⟩ : ∃ v, x.sv[(p.since - s1.base).toNat]? = some v := ⟨_, List.getElem?_eq_getElem (by omega)⟩
  obtain ⟨sd, kv0, rfl, hsd, hs0⟩ := ok.sh _ v hv
  walk_at "yn"
  refine y_ixL (sqL (S.at 1 rfl)) (atI_of (by omega) hv) ?_
  walk_at "yn"
  refine y_dictD (S.rd hsd) ?_
  refine y_newM S fun f H hf0 S => ?_
  walk_at "yn"
  refine y_forL (xs := p.vs) (fun i σ H => ∃ kvs, (∃ (y3 y4 : Option V), σ = [some (.ref x.wt), some (.ref p.i), some (.ref f), y3, y4]) ∧ Sy e B H ((f, .dK kvs) :: wtL K x s1.base) ∧ SheetOk U kvs (fun key => wsGet (p.ws.take i) key (s1.sheet (p.since - s1.base).toNat key))) ⟨kv0, ⟨_, _, rfl⟩, S, hs0⟩ (fun i σ H hi ⟨_, _, S, _⟩ => sqL (S.led _ (List.mem_cons_of_mem _ m2)).1) ?_ ?_
  · clear S
    rintro i y σ H hy ⟨kvs, ⟨y3, y4, rfl⟩, S, hs⟩
    obtain ⟨q, hq, hyq⟩ := pr_getL hvp hy
    obtain ⟨t, rfl, ht⟩ := wAt hyq
    have hqu := hwu q (List.mem_of_getElem? hq)
    have hlen := hs.len
    walk_at "yn"
    refine y_setD (kk := .inr q.1) 0 S rfl rfl (lenLt (by omega)) fun H S => ?_
    try simp only [List.set] at S
    exact ⟨_, ⟨_, _, rfl⟩, S, (hs.put hqu q.2).congr fun key => (wsGet_step hq key _).symm⟩
  clear S
  rintro σ H ⟨kvs, ⟨y3, y4, rfl⟩, S, hs⟩
  rw [hvl, List.take_length] at hs
  obtain ⟨B1, b1, hf1, S⟩ := S.frz 0 rfl hf0
  try simp only [List.eraseIdx] at S
  have hkl := hs.len
  walk_at "yn"
  refine y_lockX hz S hf1 hf0 fun od H e1 Q' he1 hH S hst hnx => ?_
  walk_at "yn"
  refine y_itemsK hH ?_
  refine y_dcG walk_items S (fun i B2 kvs2 L1 => kvs2 = (kvs.take i).filter (fun kv => !decide (kv.2 = V.non)) ∧ L1 = wtL K x s1.base) ⟨rfl, rfl⟩ (fun i B2 H1 kvs2 L1 D hP b2 S1 => hst _ _ _ S1) (fun i y B2 H1 H1' kvs2 L1 D Kp Kn hi hP b2 hD S hy kp kn => ?_) (fun B2 H kvs2 L1 D hP b2 hD S => ?_)
  · obtain ⟨T, x1, x2, rfl, hT, rfl, hx1, hx2⟩ := hy
    obtain ⟨rfl, rfl⟩ := hP
    dsimp only at hx1 hx2
    obtain ⟨kv, hkv⟩ : ∃ kv, kvs[i]? = some kv := ⟨_, List.getElem?_eq_getElem hi⟩
    rw [hkv] at hx1 hx2
    obtain rfl : kV kv.1 = x1 := Option.some.inj hx1
    obtain rfl : kv.2 = x2 := Option.some.inj hx2
    obtain ⟨b3, S⟩ := S.newI (o := .tup [kV kv.1, kv.2]) hT
    refine y_gtup (sqT upd_same) rfl ?_
    have hlt : ((kvs.take i).filter fun kv => !decide (kv.2 = V.non)).length < 100000 := by
      have h1 := List.length_filter_le (fun kv : Key × V => !decide (kv.2 = V.non)) (kvs.take i)
      rw [List.length_take] at h1
      omega
    obtain ⟨z, hz, ez, ev⟩ := hs.key kv (List.mem_of_getElem? hkv)
    obtain ⟨kk, vv⟩ := kv
    dsimp only at ez ev
    subst ez
    rcases ev with rfl | ⟨w, rfl⟩
    · walk_at "yn"
      exact kn _ _ _ (b2.trans b3) S ⟨by rw [filter_take_step hkv]; simp, rfl⟩
    · walk_at "yn"
      refine kp (.inr z) _ _ _ _ (lenLt hlt) (b2.trans b3) S ⟨?_, rfl⟩
      rw [put_fresh hs.nd hkv, filter_take_step hkv, if_pos (by simp)]
  obtain ⟨rfl, rfl⟩ := hP
  rw [List.take_length] at S
  rw [he1] at hD
  obtain ⟨hv1, hv2⟩ := hs.view
  refine hnx _ _ _ _ b2 S fun H S => ?_
  obtain ⟨B3, b3, hD3, S⟩ := S.frz 0 rfl hD
  try simp only [List.eraseIdx] at S
  exact k D _ B3 (by walk_at "up") hD3 hv1 hv2 _ S
theorem ok_view_of (T : Tx w K mg) : Ok P w K mg base 1 "view_of" ["witness", "doer"] (spY (φ_view K)) :=
  Ok.of T.F_view_of T.g_view_of (fun _ _ _ _ _ _ us hl => match us, hl with | [_, _], _ => rfl) (fn_view_of T)
theorem hasK_mem {ws : Wr} {key : Str} : hasK ws key = decide (key ∈ ws.map (·.1)) := by
  unfold hasK
  rw [Bool.eq_iff_iff, List.any_eq_true, decide_eq_true_iff, List.mem_map]
  exact ⟨fun ⟨p, hp, e⟩ => ⟨p, hp, of_decide_eq_true e⟩, fun ⟨p, hp, e⟩ => ⟨p, hp, decide_eq_true e⟩⟩
theorem cut_from {xs : List V} {i : Int} (h0 : 0 ≤ i) (h1 : i ≤ xs.length) : cutV xs (some i) none = xs.drop i.toNat := by
  unfold cutV HT.sIx
  simp
  have e : ¬ i < 0 := by omega
  rw [if_neg e]
  rw [Nat.min_eq_left (by omega)]
  exact List.take_of_length_le (by rw [List.length_drop]; omega)
def φ_free (K : PySem.W.Frag) : Ph := fun B vs L k => ∃ (x : WA) (s : AS) (U : List Str) (n : Nat) (p : Dr) (key : Str), vs = [.ref x.wt, .int p.d, .str key] ∧ L = wtL K x s.base ∧ WtOk K B U x s ∧ AS.Ok U n s ∧ n ≤ 1000 ∧ p ∈ x.ds ∧
  ∀ B', Same B B' → k B' (.bl (s.free p.op key)) (wtL K x s.base)
theorem free_eq {B : Hp} {U : List Str} {x : WA} {s : AS} (ok : WtOk K B U x s) (p : Dr) (key : Str) : s.free p.op key = (!((s.kept.drop (p.since - s.base).toNat).any fun q => hasK q.2 key) && !(x.ds.any fun q => !decide (q.d = p.d) && hasK q.ws key)) := by
  unfold AS.free
  rw [ok.op, List.any_map]
  rfl
theorem fn_is_free (T : Tx w K mg) (fd : FuncData) (F : FunD K "is_free" "is_free" (defArgs s_is_free) (defBody s_is_free) (defScope s_is_free) [] [] (He.ga K "is_free") fd) : FnOk P w K mg base CX0 1 (He.ga K "is_free") fd ["witness", "dealing", "key"] (spY (φ_free K)) := by
  refine fnM F sc_is_free (fun B vs L k h => by obtain ⟨_, _, _, _, _, _, rfl, _⟩ := h; rfl) (fun cdv A outer s H vs Q E B L e hz he hr S h => ?_)
  obtain ⟨x, s1, U, n, p, key, rfl, rfl, ok, aok, hn, hp, k⟩ := h
  refine ⟨_, (pss_cons (ps_lock (ps_for PassesOwn.never rfl (pi_items (pe_fldC T.cl_Witness T.na_Witness_doers (pv 0))) (pg_tupK (K := K) (n := 2) rfl rfl (pgs_cons (pg_name (i := 3) sc_is_free.nd rfl (.inl rfl)) (pgs_cons (pg_name (i := 4) sc_is_free.nd rfl (.inl rfl)) pgs_nil)))
      (pss_one (ps_if (PW.pt (pw_and (pt_cmpR (op_neZ (K := K) rfl hr.units) (pv 3) (pv 1) (nomark _)) (pw_and1 (pt_cmpR (op_inZ (K := K) rfl hr.units) (pv 2) (pe_lc (own := [("name", 6), ("worth", 7)]) (by rfl) sc_is_free.nd (pi_listK (K := K) rfl (pe_fldC T.cl_Doer T.na_Doer_writes (pv 4))) (blkOk_by (own := [("name", 6), ("worth", 7)]) (N := ["witness", "dealing", "key", "one", "doer", "later", "name", "worth", "keys"]) (sc := defScope s_is_free) (by decide +kernel)) (fun _ _ _ _ _ => (pg_tupK (K := K) (n := 2) rfl rfl (pgs_cons (pg_name (i := 6) sc_is_free.nd rfl (.inl rfl)) (pgs_cons (pg_name (i := 7) sc_is_free.nd rfl (.inl rfl)) pgs_nil)))) (fun _ _ _ _ _ => pts_nil) (fun _ _ _ _ _ => (pv 6))) (by rfl)))))
      (pss_one (ps_ret pe_bl))
      pss_nil))))
      (pss_cons (ps_set (i := 5) sc_is_free.nd rfl (.inl rfl) (pe_slice (sl_U (K := K) rfl) (pe_fldC T.cl_Witness T.na_Witness_keepers (pv 0)) (po_some (pe_op op_subU (pe_fldC T.cl_Doer T.na_Doer_since (pe_ix (ix_U (K := K) rfl (hu_of hr)) (pe_fldC T.cl_Witness T.na_Witness_doers (pv 0)) (pv 1) (fun _ _ => rfl))) (pe_fldC T.cl_Witness T.na_Witness_base (pv 0)))) po_none))
      (pss_one (ps_ret (pe_not (pe_callB (cr_anyU (K := K) rfl rfl) (by rfl) T.n_any (by decide +kernel) (pa_cons (pe_lc (own := [("one", 3), ("keys", 8)]) (by rfl) sc_is_free.nd (pi_listK (K := K) rfl (pv 5)) (blkOk_by (own := [("one", 3), ("keys", 8)]) (N := ["witness", "dealing", "key", "one", "doer", "later", "name", "worth", "keys"]) (sc := defScope s_is_free) (by decide +kernel)) (fun _ _ _ _ _ => (pg_tupK (K := K) (n := 2) rfl rfl (pgs_cons (pg_name (i := 3) sc_is_free.nd rfl (.inl rfl)) (pgs_cons (pg_name (i := 8) sc_is_free.nd rfl (.inl rfl)) pgs_nil)))) (fun _ _ _ _ _ => pts_nil) (fun _ _ _ _ _ => (pe_cmpR (op_inZ (K := K) rfl hr.units) (pv 2) (pv 8) (by rfl)))) pa_nil))))))), ?_⟩
  walk_at "yn"
  have hfr := free_eq ok p key
  have hop : p.op ∈ s1.opn := by rw [ok.op]; exact List.mem_map.mpr ⟨p, hp, rfl⟩
  obtain ⟨st0, st1⟩ := aok.st _ hop
  have st0 : s1.base ≤ p.since := st0
  have st1 : p.since ≤ s1.base + (s1.kept.length : Nat) := st1
  have hkvl : x.kv.length = s1.kept.length := by have := ok.kp.length; rw [List.length_map] at this; exact this
  have nd2 : (x.ds.map (·.d)).Nodup := by
    have := aok.nd
    rw [ok.op, List.map_map] at this
    exact this
  have hk1 := aok.kl
  have hf3 : ∀ ob u, e.H x.a3 ≠ some (.frz ob u) := fun ob u z => by
    rw [he, S.at 3 rfl] at z
    cases z
  have hwls : ∀ q ∈ x.ds, q.ws.length ≤ n := fun q hq => aok.wl q.op (by rw [ok.op]; exact List.mem_map.mpr ⟨q, hq, rfl⟩)
  have S3 := S.front 3 rfl
  refine y_lockLS S3 hf3 fun od H e1 nx' rt' bk' ct' he1 hH S hst hnx hrt => ?_
  replace S : Sy e1 (upd B x.a3 (.dK (drK x.ds))) H ((x.wt, wtO K x s1.base) :: (x.a1, .lst x.sv) :: (x.a2, .lst x.kv) :: drL K x.ds) := S
  walk_at "yn"
  refine y_itemsK hH ?_
  refine y_forG walk_items (fun i σ H => ∃ (B1 : Hp), (∃ (y3 y4 y5 y6 y7 y8 : Option V), σ = [some (.ref x.wt), some (.int p.d), some (.str key), y3, y4, y5, y6, y7, y8]) ∧ Same (upd B x.a3 (.dK (drK x.ds))) B1 ∧ Sy e1 B1 H ((x.wt, wtO K x s1.base) :: (x.a1, .lst x.sv) :: (x.a2, .lst x.kv) :: drL K x.ds) ∧ ∀ q ∈ x.ds.take i, (!decide (q.d = p.d) && hasK q.ws key) = false) ⟨_, ⟨_, _, _, _, _, _, rfl⟩, Same.refl _, S, fun q hq => (by simp at hq)⟩ (fun i σ H hi ⟨B1, _, b1, S, _⟩ => hst _ _ _ S) ?_ ?_
  · clear S
    rintro i y σ H H' ti ⟨B1, ⟨y3, y4, y5, y6, y7, y8, rfl⟩, b1, S, hno⟩ ⟨tt, x1, x2, rfl, htt, rfl, hx1, hx2⟩
    have hdl : (drK x.ds).length = x.ds.length := by unfold drK; rw [List.length_map]
    obtain ⟨q, hq⟩ : ∃ q, x.ds[i]? = some q := ⟨_, List.getElem?_eq_getElem (by omega)⟩
    have hqm : q ∈ x.ds := List.mem_of_getElem? hq
    have hdq : (drK x.ds)[i]? = some (.inl q.d, .ref q.i) := by unfold drK; rw [List.getElem?_map, hq]; rfl
    dsimp only at hx1 hx2
    rw [hdq] at hx1 hx2
    obtain rfl : V.int q.d = x1 := Option.some.inj hx1
    obtain rfl : V.ref q.i = x2 := Option.some.inj hx2
    obtain ⟨b2, S⟩ := S.newI (o := .tup [.int q.d, .ref q.i]) htt
    refine y_gtup (sqT upd_same) rfl ?_
    generalize upd B1 tt (.tup [.int q.d, .ref q.i]) = B2 at b2 S
    obtain ⟨m1, m2⟩ := drL_mem (K := K) hqm
    have m1 : (q.i, drO K q) ∈ ((x.wt, wtO K x s1.base) :: (x.a1, .lst x.sv) :: (x.a2, .lst x.kv) :: drL K x.ds : Led) := by simp only [List.mem_cons]; exact .inr (.inr (.inr m1))
    have m2 : (q.a, HO.lst q.vs) ∈ ((x.wt, wtO K x s1.base) :: (x.a1, .lst x.sv) :: (x.a2, .lst x.kv) :: drL K x.ds : Led) := by simp only [List.mem_cons]; exact .inr (.inr (.inr m2))
    have sB : Same B (upd B x.a3 (.dK (drK x.ds))) := (S3.into0).1
    have hvp : Paired (At wC K B2) q.vs q.ws := pr_up at_up (sB.trans (b1.trans b2)) (ok.ws q hqm)
    have hvl : q.vs.length = q.ws.length := hvp.length
    have hwl := hwls q hqm
    walk_at "yn"
    refine y_ifS ?_
    walk_at "yy"
    refine y_iteIN (fun hc => ?_) (fun hc => ?_)
    · walk_at "yy"
      refine y_lcRel (At .str K) at_up (walk_list (xs := q.vs)) S (by omega) (fun i => q.ws[i]?.bind fun z => some z.1) (fun B3 H1 D acc b3 S1 => sqL (S1.led _ (List.mem_cons_of_mem _ m2)).1) (fun i y B3 H1 H1' acc D Kp Kn hi b3 S hy kp kn => ?_) (fun B3 H acc D b3 hD hp3 S => ?_)
      · obtain ⟨rfl, e2⟩ := hy
        obtain ⟨z, hz, hyz⟩ := pr_getL hvp e2
        obtain ⟨t, rfl, ht⟩ := wAt (hyz.up b3)
        walk_at "yn"
        exact kp _ _ _ _ (by rw [hz]; rfl) (Same.refl _) .str S
      rw [hvl, range_bind, fm_some] at hp3
      obtain ⟨B4, b4, hD4, S⟩ := S.frz 0 rfl hD
      try simp only [List.eraseIdx] at S
      refine y_inC .str S .str (.list (sqL hD4) (pr_up at_up b4 hp3)) (by decide) ?_
      rw [← hasK_mem (ws := q.ws)]
      walk_at "yy"
      refine y_iteB (fun hh => ?_) (fun hh => ?_)
      · walk_at "yn"
        have e9 : s1.free p.op key = false := by
          rw [hfr, show (x.ds.any fun q => !decide (q.d = p.d) && hasK q.ws key) = true from List.any_eq_true.mpr ⟨q, hqm, by rw [decide_eq_false hc, hh]; rfl⟩]
          simp
        refine hrt _ _ _ _ ((b1.trans b2).trans (b3.trans b4)) S fun H2 sb S2 => ?_
        have := k _ sb
        rw [e9] at this
        exact this _ (S2.perm (led_erase (L := wtL K x s1.base) (n := 3) rfl).symm)
      · walk_at "yn"
        refine ⟨B4, ⟨_, _, _, _, _, _, rfl⟩, (b1.trans b2).trans (b3.trans b4), S, fun r hr => ?_⟩
        rw [take_get hq] at hr
        rcases List.mem_append.mp hr with hr | hr
        · exact hno r hr
        · rw [List.mem_singleton.mp hr, hh, Bool.and_false]
    · walk_at "yn"
      refine ⟨B2, ⟨_, _, _, _, _, _, rfl⟩, b1.trans b2, S, fun r hr => ?_⟩
      rw [take_get hq] at hr
      rcases List.mem_append.mp hr with hr | hr
      · exact hno r hr
      · rw [List.mem_singleton.mp hr, decide_eq_true hc]
        rfl
  clear S
  rintro σ H ⟨B1, ⟨y3, y4, y5, y6, y7, y8, rfl⟩, b1, S, hno⟩
  have hdl : (drK x.ds).length = x.ds.length := by unfold drK; rw [List.length_map]
  rw [hdl, List.take_length] at hno
  refine hnx _ _ _ _ b1 S fun H2 sb S2 => ?_
  clear S hnx hrt hst hH he1
  have S := S2.perm (led_erase (L := wtL K x s1.base) (n := 3) rfl).symm
  clear S2 S3
  generalize lessA B1 x.a3 = B2 at sb S
  obtain ⟨m1, m2⟩ := wtL_mem (K := K) (b := s1.base) hp
  replace ok := ok.up sb
  walk_at "yn"
  refine y_ixD (k := .inl p.d) (.inl (S.at 3 rfl)) rfl (drK_val nd2 hp) ?_
  walk_at "yn"
  refine y_slL (sqL (S.at 2 rfl)) ?_
  rw [cut_from (by omega) (by omega)]
  refine y_newI S fun lt B3 H b3 hlt _ S => ?_
  have hlat : At (.list (.tup2 .int cS)) K B3 (.ref lt) ((s1.kept.drop (p.since - s1.base).toNat).map fun q => (q.1, q.2.map (·.1))) := by
    rw [List.map_drop]
    exact .list (sqL hlt) (pr_drop _ (pr_up at_up b3 ok.kp))
  walk_at "yn"
  refine y_lcI (cx := .tup2 .int cS) (cy := .bool) (fun q => some (decide (key ∈ q.2))) S hlat (by rw [List.length_map, List.length_drop]; omega) (fun i z y B4 H7 D acc Kp Kn hz b4 hy S kp kn => ?_) (fun D B4 H b4 hD hl4 S => ?_)
  · obtain ⟨tp, v1, v2, rfl, htp, hv1, hv2⟩ := at_tup2 hy
    walk_at "yn"
    refine y_inC .str S .str hv2 (by decide) ?_
    exact kp _ _ _ _ rfl (Same.refl _) .bool S
  rw [fm_some] at hl4
  obtain ⟨vb, qb, pb⟩ := at_list_ref hl4
  have e0 := bools_of pb
  subst e0
  walk_at "yn"
  refine y_any (S.l qb) ?_
  walk_at "yn"
  have e1 : s1.free p.op key = !(((s1.kept.drop (p.since - s1.base).toNat).map fun q => (q.1, q.2.map (·.1))).map fun q => decide (key ∈ q.2)).any id := by
    rw [hfr, show (x.ds.any fun q => !decide (q.d = p.d) && hasK q.ws key) = false from List.any_eq_false.mpr fun q hq => by rw [hno q hq]; simp, Bool.not_false, Bool.and_true, List.map_map, List.any_map]
    congr 2
    funext q
    exact hasK_mem
  have := k B4 (by walk_at "up")
  rw [e1] at this
  exact this _ S
theorem ok_is_free (T : Tx w K mg) : Ok P w K mg base 1 "is_free" ["witness", "dealing", "key"] (spY (φ_free K)) :=
  Ok.of T.F_is_free T.g_is_free (fun _ _ _ _ _ _ us hl => match us, hl with | [_, _, _], _ => rfl) (fn_is_free T)

/-- what a judgement of an event promises -/
def CanR (K : PySem.W.Frag) (U : List Str) (x : WA) (s : AS) (i : Nat) (ev : Ev) (k : Hp → V → Led → Prop) (B : Hp) : Prop :=
  (∀ B' L', Same B B' → s.canB i ev = false → k B' (.bl false) L') ∧ ∀ x' B', Same B B' → x'.wt = x.wt → s.canB i ev = true → WtOk K B' U x' (s.happens ev) → k B' (.bl true) (wtL K x' (s.happens ev).base)
/-- the parts of a deed, behind its word -/
def evRest (K : PySem.W.Frag) (B : Hp) (ws : List V) : Ev → Prop
  | .begin d => ws = [.int d]
  | .read d key w => ws = [.int d, .str key, wV w]
  | .scan d lo hi rows => ∃ a, ws = [.int d, .str lo, .str hi, .ref a] ∧ At rwC K B (.ref a) rows
  | .put d key w => ws = [.int d, .str key, .int w]
  | .drop d key => ws = [.int d, .str key]
  | .back d n => ws = [.int d, .int n]
  | .mark d n => ws = [.int d, .int n]
  | .keep d p => ws = [.int d, .int p]
  | .undo d => ws = [.int d]
  | .fall n => ws = [.int n]
  | .raised n rows => ∃ a, ws = [.int n, .ref a] ∧ At rwC K B (.ref a) rows
structure Gv (K : PySem.W.Frag) (B : Hp) (U : List Str) (n : Nat) (x : WA) (s : AS) (r : Addr) (ev : Ev) : Prop where
  ok : WtOk K B U x s
  aok : AS.Ok U n s
  eok : EvOk U ev
  ul : U.length ≤ 100
  nl : n ≤ 900
  re : ∃ ws, SqL K B r ws ∧ evRest K B ws ev
def φ_can (K : PySem.W.Frag) (tag : Str) : Ph := fun B vs L k => ∃ (x : WA) (s : AS) (U : List Str) (n i : Nat) (r : Addr) (ev : Ev), vs = [.ref x.wt, .ref r] ∧ L = wtL K x s.base ∧ evTag ev = tag ∧ Gv K B U n x s r ev ∧ CanR K U x s i ev k B
/-- .. of an open dealing -/
def φ_deed (K : PySem.W.Frag) (tag : Str) : Ph := fun B vs L k => ∃ (x : WA) (s : AS) (U : List Str) (n i : Nat) (r : Addr) (ev : Ev) (p : Dr) (j : Nat), vs = [.ref x.wt, .ref r] ∧ L = wtL K x s.base ∧ evTag ev = tag ∧ Gv K B U n x s r ev ∧ x.ds[j]? = some p ∧ p.d = evWho ev ∧ CanR K U x s i ev k B
theorem ds_nd {B : Hp} {U : List Str} {x : WA} {s : AS} {n : Nat} (ok : WtOk K B U x s) (aok : AS.Ok U n s) : (x.ds.map (·.d)).Nodup := by
  have := aok.nd
  rw [ok.op, List.map_map] at this
  exact this
theorem find_p {B : Hp} {U : List Str} {x : WA} {s : AS} {n : Nat} (ok : WtOk K B U x s) (aok : AS.Ok U n s) {p : Dr} (hp : p ∈ x.ds) : s.find p.d = some p.op := by
  rcases ok.find aok.nd p.d with ⟨h, _⟩ | ⟨q, j, hq, e, h, _⟩
  · exact absurd rfl (AS.find_none h p.op (by rw [ok.op]; exact List.mem_map.mpr ⟨p, hp, rfl⟩))
  · rw [h, nodup_inj (ds_nd ok aok) (List.mem_of_getElem? hq) hp e]
theorem fn_can_mark (T : Tx w K mg) (fd : FuncData) (F : FunD K "can_mark" "can_mark" (defArgs s_can_mark) (defBody s_can_mark) (defScope s_can_mark) [] [] (He.ga K "can_mark") fd) : FnOk P w K mg base CX0 1 (He.ga K "can_mark") fd ["witness", "rest"] (spY (φ_deed K "mark")) := by
  refine fnM F sc_can_mark (fun B vs L k h => by obtain ⟨_, _, _, _, _, _, _, _, _, rfl, _⟩ := h; rfl) (fun cdv A outer s H vs Q E B L e hz he hr S h => ?_)
  obtain ⟨x, s1, U, n, i0, r, ev, p, j, rfl, rfl, htag, g, hj, hpd, k⟩ := h
  refine ⟨_, (pss_cons (ps_asg (pv 1) (pg_unlK (K := K) (n := 2) rfl rfl (pgs_cons (pg_name (i := 2) sc_can_mark.nd rfl (.inl rfl)) (pgs_cons (pg_name (i := 3) sc_can_mark.nd rfl (.inl rfl)) pgs_nil))))
      (pss_one (ps_ret (pe_cmpR (op_eqZ (K := K) rfl hr.units) (pv 3) (pe_callB (call_lenU (K := K) rfl) (by rfl) T.n_len (by decide +kernel) (pa_cons (pe_fldC T.cl_Doer T.na_Doer_writes (pe_ix (ix_U (K := K) rfl (hu_of hr)) (pe_fldC T.cl_Witness T.na_Witness_doers (pv 0)) (pv 2) (fun _ _ => rfl))) pa_nil)) (nomark _))))), ?_⟩
  walk_at "yn"
  cases ev <;> first | (exfalso; revert htag; simp only [evTag]; decide) | skip
  rename_i d m
  obtain ⟨ws, hr, rfl⟩ := g.re
  have hp := List.mem_of_getElem? hj
  have hpd : p.d = d := hpd
  subst hpd
  obtain ⟨m1, m2⟩ := wtL_mem (K := K) (b := s1.base) hp
  have hv := drK_val (ds_nd g.ok g.aok) hp
  have hvl : p.vs.length = p.ws.length := (g.ok.ws p hp).length
  have hc : s1.canB i0 (.mark p.d m) = decide (m = p.ws.length) := by
    show (match s1.find p.d with | none => false | some o => s1.deedB o (.mark p.d m)) = _
    rw [find_p g.ok g.aok hp]
    rfl
  walk_at "yn"
  refine y_ixD (k := .inl p.d) (.inl (S.at 3 rfl)) rfl hv ?_
  walk_at "yn"
  rw [hvl]
  by_cases c : m = p.ws.length
  · rw [show decide (V.int m = V.int (p.ws.length : Nat)) = true from decide_eq_true (by rw [c])]
    exact k.2 x B (Same.refl _) rfl (by rw [hc]; exact decide_eq_true c) g.ok _ S
  · rw [show decide (V.int m = V.int (p.ws.length : Nat)) = false from decide_eq_false fun z => c (V.int.inj z)]
    exact k.1 B _ (Same.refl _) (by rw [hc]; exact decide_eq_false c) _ S
theorem ok_can_mark (T : Tx w K mg) : Ok P w K mg base 1 "can_mark" ["witness", "rest"] (spY (φ_deed K "mark")) :=
  Ok.of T.F_can_mark T.g_can_mark (fun _ _ _ _ _ _ us hl => match us, hl with | [_, _], _ => rfl) (fn_can_mark T)
theorem valO_get {kvs : List (Key × V)} {U : List Str} {f : Str → Option Int} (h : SheetOk U kvs f) (hi : ∀ kv ∈ kvs, ∃ i, kv.2 = .int i) (key : Str) : valV kvs (.inr key) = (f key).map V.int := by
  rw [← h.val key]
  cases q : valV kvs (.inr key) with
  | none => rfl
  | some v =>
    unfold valV at q
    obtain ⟨kv, hkv, rfl⟩ := Option.map_eq_some_iff.mp q
    obtain ⟨i, e⟩ := hi kv (List.mem_of_find?_eq_some hkv)
    rw [e]
    rfl
theorem y_eqOI {H : Hp} {Q : VK} {o u : Option Int} (q : Q (.bl (decide (o = u))) H) : rEqZ K (wV o) (wV u) H Q := by
  refine .inr ⟨Cod.optI.enc o, Cod.optI.enc u, atOptI o, atOptI u, Cod.Pl .optI o (by decide), Cod.Pl .optI u (by decide), ?_⟩
  rw [Cod.dec]
  exact q
theorem getD_w (o : Option Int) : (o.map V.int).getD .non = wV o := by cases o <;> rfl
theorem fn_can_read (T : Tx w K mg) (fd : FuncData) (F : FunD K "can_read" "can_read" (defArgs s_can_read) (defBody s_can_read) (defScope s_can_read) [] [] (He.ga K "can_read") fd) : FnOk P w K mg base CX0 2 (He.ga K "can_read") fd ["witness", "rest"] (spY (φ_deed K "read")) := by
  refine fnM F sc_can_read (fun B vs L k h => by obtain ⟨_, _, _, _, _, _, _, _, _, rfl, _⟩ := h; rfl) (fun cdv A outer s H vs Q E B L e hz he hr S h => ?_)
  obtain ⟨x, s1, U, n, i0, r, ev, p, j, rfl, rfl, htag, g, hj, hpd, k⟩ := h
  refine ⟨_, (pss_cons (ps_asg (pv 1) (pg_unlK (K := K) (n := 3) rfl rfl (pgs_cons (pg_name (i := 2) sc_can_read.nd rfl (.inl rfl)) (pgs_cons (pg_name (i := 3) sc_can_read.nd rfl (.inl rfl)) (pgs_cons (pg_name (i := 4) sc_can_read.nd rfl (.inl rfl)) pgs_nil)))))
      (pss_one (ps_ret (pe_cmpR (op_eqZ (K := K) rfl hr.units) (pe_dget1 (hu_of hr) (pe_callO (ok_view_of (K := K) T) hr (by rfl) (pa_cons (pv 0) (pa_cons (pe_ix (ix_U (K := K) rfl (hu_of hr)) (pe_fldC T.cl_Witness T.na_Witness_doers (pv 0)) (pv 2) (fun _ _ => rfl)) pa_nil))) (pv 3) (by exact ⟨rfl, rfl, rfl, rfl⟩)) (pv 4) (nomark _))))), ?_⟩
  walk_at "yn"
  cases ev <;> first | (exfalso; revert htag; simp only [evTag]; decide) | skip
  rename_i d key w0
  obtain ⟨ws, hr, rfl⟩ := g.re
  have hp := List.mem_of_getElem? hj
  have hpd : p.d = d := hpd
  subst hpd
  have hv := drK_val (ds_nd g.ok g.aok) hp
  have hnl := g.nl
  have hc : s1.canB i0 (.read p.d key w0) = decide (s1.sees p.op key = w0) := by
    show (match s1.find p.d with | none => false | some o => s1.deedB o (.read p.d key w0)) = _
    rw [find_p g.ok g.aok hp]
    rfl
  walk_at "yn"
  refine y_ixD (k := .inl p.d) (.inl (S.at 3 rfl)) rfl hv ?_
  walk_at "yn"
  refine y_spG (L := wtL K x s1.base) (R := []) (by rw [List.append_nil]; exact S) ⟨x, s1, U, n, p, rfl, rfl, g.ok, g.aok, g.ul, by omega, hp, fun vd kvs B1 b1 hvd hs hi H T => ?_⟩
  obtain ⟨-, S, -⟩ := Sy.backG (R := []) (by rw [List.append_nil]; exact S) T
  clear T
  rw [List.append_nil] at S
  refine ⟨vd, rfl, .inl ⟨_, S.rd hvd⟩, ?_⟩
  walk_at "yn"
  refine ⟨_, .inl ⟨kvs, .inr key, S.rd hvd, rfl, rfl⟩, ?_⟩
  rw [valO_get hs hi, getD_w]
  walk_at "yn"
  refine y_eqOI ?_
  by_cases c : s1.sees p.op key = w0
  · rw [decide_eq_true c]
    exact k.2 x B1 b1 rfl (by rw [hc]; exact decide_eq_true c) (g.ok.up b1) _ S
  · rw [decide_eq_false c]
    exact k.1 B1 _ b1 (by rw [hc]; exact decide_eq_false c) _ S
theorem ok_can_read (T : Tx w K mg) : Ok P w K mg base 2 "can_read" ["witness", "rest"] (spY (φ_deed K "read")) :=
  Ok.of T.F_can_read T.g_can_read (fun _ _ _ _ _ _ us hl => match us, hl with | [_, _], _ => rfl) (fn_can_read T)

theorem wsAt_snoc {B : Hp} {vs : List V} {ws : Wr} {t : Addr} {key : Str} {w0 : Option Int} (h : Paired (At wC K B) vs ws) (ht : B t = some (.tup [.str key, wV w0])) : Paired (At wC K B) (vs ++ [.ref t]) (ws ++ [(key, w0)]) := pr_app h (.cons (.tup2 (sqT ht) .str (atOptI w0)) .nil)
theorem wtL_at {x : WA} {b : Int} {j : Nat} {p : Dr} (h : x.ds[j]? = some p) : (wtL K x b)[4 + 2 * j]? = some (p.i, drO K p) ∧ (wtL K x b)[4 + 2 * j + 1]? = some (p.a, .lst p.vs) := by
  obtain ⟨h1, h2⟩ := drL_at (K := K) h
  constructor
  · rw [show 4 + 2 * j = 2 * j + 1 + 1 + 1 + 1 by omega]
    exact h1
  · rw [show 4 + 2 * j + 1 = 2 * j + 1 + 1 + 1 + 1 + 1 by omega]
    exact h2
theorem drK_set {ds : List Dr} {j : Nat} {p q : Dr} (h : ds[j]? = some p) (h1 : q.d = p.d) (h2 : q.i = p.i) : drK (ds.set j q) = drK ds := by
  unfold drK
  rw [List.map_set]
  apply List.ext_getElem?
  intro i
  rw [List.getElem?_set]
  split
  · next e =>
    subst e
    have hl : j < ds.length := (List.getElem?_eq_some_iff.mp h).1
    rw [if_pos (by rw [List.length_map]; exact hl), List.getElem?_map, h, h1, h2]
    rfl
  · rfl
/-- a dealing's writes are others -/
theorem wtL_ws {x : WA} {b : Int} {j : Nat} {p : Dr} (h : x.ds[j]? = some p) (vs : List V) (ws : Wr) : (wtL K x b).set (4 + 2 * j + 1) (p.a, .lst vs) = wtL K { x with ds := x.ds.set j { p with vs := vs, ws := ws } } b := by
  rw [show 4 + 2 * j + 1 = 2 * j + 1 + 1 + 1 + 1 + 1 by omega]
  show _ :: _ :: _ :: _ :: (drL K x.ds).set (2 * j + 1) _ = _ :: _ :: _ :: (x.a3, HO.dK (drK (x.ds.set j _))) :: drL K (x.ds.set j _)
  rw [drK_set (q := { p with vs := vs, ws := ws }) h rfl rfl, drL_set (q := { p with vs := vs, ws := ws }) h]
  congr 5
  have e : (drL K x.ds).set (2 * j) (p.i, drO K { p with vs := vs, ws := ws }) = drL K x.ds := by
    apply List.ext_getElem?
    intro i
    rw [List.getElem?_set]
    split
    · next e =>
      subst e
      have h1 := (drL_at (K := K) h).1
      rw [if_pos (List.getElem?_eq_some_iff.mp h1).1, h1]
    · rfl
  rw [show (({ p with vs := vs, ws := ws } : Dr).i, drO K { p with vs := vs, ws := ws }) = (p.i, drO K { p with vs := vs, ws := ws }) from rfl, e]
theorem set_op {B : Hp} {U : List Str} {x : WA} {s : AS} (ok : WtOk K B U x s) (nd : (x.ds.map (·.d)).Nodup) {j : Nat} {p : Dr} (h : x.ds[j]? = some p) (q : Dr) (hq : q.op = ⟨p.d, p.since, f p.ws⟩) : s.upd p.d f = (x.ds.set j q).map Dr.op := by
  unfold AS.upd
  rw [ok.op, List.map_map]
  apply List.ext_getElem?
  intro i
  rw [List.getElem?_map, List.getElem?_map, List.getElem?_set]
  by_cases c : j = i
  · subst c
    rw [if_pos rfl, if_pos (List.getElem?_eq_some_iff.mp h).1, h]
    show some (if p.op.d = p.d then ({ p.op with ws := f p.op.ws } : Op) else p.op) = some q.op
    rw [if_pos (show p.op.d = p.d from rfl), hq]
    rfl
  · rw [if_neg c]
    cases e : x.ds[i]? with
    | none => rfl
    | some r =>
      have hne : r.d ≠ p.d := fun z => by
        have e1 : (x.ds.map (·.d))[i]? = some r.d := by rw [List.getElem?_map, e]; rfl
        have e2 : (x.ds.map (·.d))[j]? = some p.d := by rw [List.getElem?_map, h]; rfl
        exact c ((List.getElem?_inj (by rw [List.length_map]; exact (List.getElem?_eq_some_iff.mp h).1) nd).mp (by rw [e1, e2, z]))
      show some (if r.op.d = p.d then ({ r.op with ws := f r.op.ws } : Op) else r.op) = some r.op
      rw [if_neg (show ¬ r.op.d = p.d from hne)]
/-- .. so it follows -/
theorem WtOk.wr {B : Hp} {U : List Str} {x : WA} {s : AS} (ok : WtOk K B U x s) (nd : (x.ds.map (·.d)).Nodup) {j : Nat} {p : Dr} (h : x.ds[j]? = some p) (q : Dr) (hq : q.op = ⟨p.d, p.since, f p.ws⟩) (hw : Paired (At wC K B) q.vs q.ws) : WtOk K B U { x with ds := x.ds.set j q } { s with opn := s.upd p.d f } :=
  ⟨ok.sl, ok.sh, ok.kp, set_op ok nd h q hq, fun r hr => by
    rcases List.mem_or_eq_of_mem_set hr with hr | rfl
    · exact ok.ws r hr
    · exact hw⟩
theorem fn_can_put (T : Tx w K mg) (fd : FuncData) (F : FunD K "can_put" "can_put" (defArgs s_can_put) (defBody s_can_put) (defScope s_can_put) [] [] (He.ga K "can_put") fd) : FnOk P w K mg base CX0 2 (He.ga K "can_put") fd ["witness", "rest"] (spY (φ_deed K "put")) := by
  refine fnM F sc_can_put (fun B vs L k h => by obtain ⟨_, _, _, _, _, _, _, _, _, rfl, _⟩ := h; rfl) (fun cdv A outer s H vs Q E B L e hz he hr S h => ?_)
  obtain ⟨x, s1, U, n, i0, r, ev, p, j, rfl, rfl, htag, g, hj, hpd, k⟩ := h
  refine ⟨_, (pss_cons (ps_asg (pv 1) (pg_unlK (K := K) (n := 3) rfl rfl (pgs_cons (pg_name (i := 2) sc_can_put.nd rfl (.inl rfl)) (pgs_cons (pg_name (i := 3) sc_can_put.nd rfl (.inl rfl)) (pgs_cons (pg_name (i := 4) sc_can_put.nd rfl (.inl rfl)) pgs_nil)))))
      (pss_cons (ps_if (pt_not (pt_val (pe_callO (ok_is_free (K := K) T) hr (by rfl) (pa_cons (pv 0) (pa_cons (pv 2) (pa_cons (pv 3) pa_nil))))))
      (pss_one (ps_ret pe_bl))
      pss_nil)
      (pss_cons (ps_expr (pe_bmK (K := K) (id := "list.append") rfl (pe_bm PySem.F.plainAttrs_list PySem.F.slot_list_append PySem.F.type_list_append mt_append (pe_fldC T.cl_Doer T.na_Doer_writes (pe_ix (ix_U (K := K) rfl (hu_of hr)) (pe_fldC T.cl_Witness T.na_Witness_doers (pv 0)) (pv 2) (fun _ _ => rfl))) (pa_cons (pe_tup (pa_cons (pv 3) (pa_cons (pv 4) pa_nil))) pa_nil))))
      (pss_one (ps_ret pe_bl))))), ?_⟩
  walk_at "yn"
  cases ev <;> first | (exfalso; revert htag; simp only [evTag]; decide) | skip
  rename_i d key w0
  obtain ⟨ws, hr, rfl⟩ := g.re
  have hp := List.mem_of_getElem? hj
  have hpd : p.d = d := hpd
  subst hpd
  have nd2 := ds_nd g.ok g.aok
  have hv := drK_val nd2 hp
  have hnl := g.nl
  have hvl : p.vs.length = p.ws.length := (g.ok.ws p hp).length
  have hwl : p.ws.length ≤ n := g.aok.wl p.op (by rw [g.ok.op]; exact List.mem_map.mpr ⟨p, hp, rfl⟩)
  have hc : s1.canB i0 (.put p.d key w0) = s1.free p.op key := by
    show (match s1.find p.d with | none => false | some o => s1.deedB o (.put p.d key w0)) = _
    rw [find_p g.ok g.aok hp]
    rfl
  walk_at "yy"
  refine y_spG (L := wtL K x s1.base) (R := []) (by rw [List.append_nil]; exact S) ⟨x, s1, U, n, p, key, rfl, rfl, g.ok, g.aok, by omega, hp, fun B1 b1 H T => ?_⟩
  obtain ⟨-, S, -⟩ := Sy.backG (R := []) (by rw [List.append_nil]; exact S) T
  clear T
  rw [List.append_nil] at S
  obtain ⟨m1, m2⟩ := wtL_mem (K := K) (b := s1.base) hp
  walk_at "yy"
  cases hfr : s1.free p.op key with
  | false =>
    walk_at "yy"
    exact k.1 B1 _ b1 (by rw [hc, hfr]) _ S
  | true =>
    walk_at "yy"
    refine y_ixD (k := .inl p.d) (.inl (S.at 3 rfl)) rfl hv ?_
    walk_at "yn"
    refine y_newI S fun t B2 H b2 ht _ S => ?_
    walk_at "yn"
    refine y_app (4 + 2 * j + 1) S (wtL_at hj).2 (lenLt (by omega)) fun H S => ?_
    rw [wtL_ws hj _ (p.ws ++ [(key, some w0)])] at S
    walk_at "yn"
    exact k.2 { x with ds := x.ds.set j { p with vs := p.vs ++ [.ref t], ws := p.ws ++ [(key, some w0)] } } B2 (b1.trans b2) rfl (by rw [hc, hfr]) ((g.ok.up (b1.trans b2)).wr (f := (· ++ [(key, some w0)])) nd2 hj { p with vs := p.vs ++ [.ref t], ws := p.ws ++ [(key, some w0)] } rfl (wsAt_snoc (w0 := some w0) (pr_up at_up (b1.trans b2) (g.ok.ws p hp)) ht)) _ S
theorem ok_can_put (T : Tx w K mg) : Ok P w K mg base 2 "can_put" ["witness", "rest"] (spY (φ_deed K "put")) :=
  Ok.of T.F_can_put T.g_can_put (fun _ _ _ _ _ _ us hl => match us, hl with | [_, _], _ => rfl) (fn_can_put T)
theorem fn_can_drop (T : Tx w K mg) (fd : FuncData) (F : FunD K "can_drop" "can_drop" (defArgs s_can_drop) (defBody s_can_drop) (defScope s_can_drop) [] [] (He.ga K "can_drop") fd) : FnOk P w K mg base CX0 2 (He.ga K "can_drop") fd ["witness", "rest"] (spY (φ_deed K "drop")) := by
  refine fnM F sc_can_drop (fun B vs L k h => by obtain ⟨_, _, _, _, _, _, _, _, _, rfl, _⟩ := h; rfl) (fun cdv A outer s H vs Q E B L e hz he hr S h => ?_)
  obtain ⟨x, s1, U, n, i0, r, ev, p, j, rfl, rfl, htag, g, hj, hpd, k⟩ := h
  refine ⟨_, (pss_cons (ps_asg (pv 1) (pg_unlK (K := K) (n := 2) rfl rfl (pgs_cons (pg_name (i := 2) sc_can_drop.nd rfl (.inl rfl)) (pgs_cons (pg_name (i := 3) sc_can_drop.nd rfl (.inl rfl)) pgs_nil))))
      (pss_cons (ps_if (PW.pt (pw_or (pt_not (pt_val (pe_callO (ok_is_free (K := K) T) hr (by rfl) (pa_cons (pv 0) (pa_cons (pv 2) (pa_cons (pv 3) pa_nil)))))) (pw_or1 (pt_cmpR (op_notInZ (K := K) rfl hr.units) (pv 3) (pe_callO (ok_view_of (K := K) T) hr (by rfl) (pa_cons (pv 0) (pa_cons (pe_ix (ix_U (K := K) rfl (hu_of hr)) (pe_fldC T.cl_Witness T.na_Witness_doers (pv 0)) (pv 2) (fun _ _ => rfl)) pa_nil))) (by rfl)))))
      (pss_one (ps_ret pe_bl))
      pss_nil)
      (pss_cons (ps_expr (pe_bmK (K := K) (id := "list.append") rfl (pe_bm PySem.F.plainAttrs_list PySem.F.slot_list_append PySem.F.type_list_append mt_append (pe_fldC T.cl_Doer T.na_Doer_writes (pe_ix (ix_U (K := K) rfl (hu_of hr)) (pe_fldC T.cl_Witness T.na_Witness_doers (pv 0)) (pv 2) (fun _ _ => rfl))) (pa_cons (pe_tup (pa_cons (pv 3) (pa_cons pe_non pa_nil))) pa_nil))))
      (pss_one (ps_ret pe_bl))))), ?_⟩
  walk_at "yn"
  cases ev <;> first | (exfalso; revert htag; simp only [evTag]; decide) | skip
  rename_i d key
  obtain ⟨ws, hr, rfl⟩ := g.re
  have hp := List.mem_of_getElem? hj
  have hpd : p.d = d := hpd
  subst hpd
  have nd2 := ds_nd g.ok g.aok
  have hv := drK_val nd2 hp
  have hnl := g.nl
  have hvl : p.vs.length = p.ws.length := (g.ok.ws p hp).length
  have hwl : p.ws.length ≤ n := g.aok.wl p.op (by rw [g.ok.op]; exact List.mem_map.mpr ⟨p, hp, rfl⟩)
  have hc : s1.canB i0 (.drop p.d key) = (s1.free p.op key && (s1.sees p.op key).isSome) := by
    show (match s1.find p.d with | none => false | some o => s1.deedB o (.drop p.d key)) = _
    rw [find_p g.ok g.aok hp]
    rfl
  walk_at "yy"
  refine y_spG (L := wtL K x s1.base) (R := []) (by rw [List.append_nil]; exact S) ⟨x, s1, U, n, p, key, rfl, rfl, g.ok, g.aok, by omega, hp, fun B1 b1 H T => ?_⟩
  obtain ⟨-, S, -⟩ := Sy.backG (R := []) (by rw [List.append_nil]; exact S) T
  clear T
  rw [List.append_nil] at S
  obtain ⟨m1, m2⟩ := wtL_mem (K := K) (b := s1.base) hp
  walk_at "yy"
  cases hfr : s1.free p.op key with
  | false =>
    walk_at "yy"
    exact k.1 B1 _ b1 (by rw [hc, hfr]; rfl) _ S
  | true =>
    walk_at "yy"
    refine y_ixD (k := .inl p.d) (.inl (S.at 3 rfl)) rfl hv ?_
    walk_at "yy"
    refine y_spG (L := wtL K x s1.base) (R := []) (by rw [List.append_nil]; exact S) ⟨x, s1, U, n, p, rfl, rfl, g.ok.up b1, g.aok, g.ul, by omega, hp, fun vd kvs B2 b2 hvd hs hi H T => ?_⟩
    obtain ⟨-, S, -⟩ := Sy.backG (R := []) (by rw [List.append_nil]; exact S) T
    clear T
    rw [List.append_nil] at S
    refine z_notInD (k := .inr key) (S.rd hvd) rfl ?_
    rw [valO_get hs hi]
    have b12 := b1.trans b2
    cases hse : s1.sees p.op key with
    | none =>
      walk_at "yy"
      exact k.1 B2 _ b12 (by rw [hc, hfr, hse]; rfl) _ S
    | some w1 =>
      rw [show (Option.map V.int (some w1)).isSome = true from rfl]
      walk_at "yy"
      refine y_ixD (k := .inl p.d) (.inl (S.at 3 rfl)) rfl hv ?_
      walk_at "yn"
      refine y_newI S fun t B3 H b3 ht _ S => ?_
      walk_at "yn"
      refine y_app (4 + 2 * j + 1) S (wtL_at hj).2 (lenLt (by omega)) fun H S => ?_
      rw [wtL_ws hj _ (p.ws ++ [(key, none)])] at S
      walk_at "yn"
      exact k.2 { x with ds := x.ds.set j { p with vs := p.vs ++ [.ref t], ws := p.ws ++ [(key, none)] } } B3 (b12.trans b3) rfl (by rw [hc, hfr, hse]; rfl) ((g.ok.up (b12.trans b3)).wr (f := (· ++ [(key, none)])) nd2 hj { p with vs := p.vs ++ [.ref t], ws := p.ws ++ [(key, none)] } rfl (wsAt_snoc (w0 := none) (pr_up at_up (b12.trans b3) (g.ok.ws p hp)) ht)) _ S
theorem ok_can_drop (T : Tx w K mg) : Ok P w K mg base 2 "can_drop" ["witness", "rest"] (spY (φ_deed K "drop")) :=
  Ok.of T.F_can_drop T.g_can_drop (fun _ _ _ _ _ _ us hl => match us, hl with | [_, _], _ => rfl) (fn_can_drop T)

theorem cut_to {xs : List V} {hi : Int} (h0 : 0 ≤ hi) : cutV xs none (some hi) = xs.take hi.toNat := by
  unfold cutV HT.sIx
  simp
  split <;> omega
theorem wtL_new {x : WA} {b : Int} {j : Nat} {p q : Dr} (h : x.ds[j]? = some p) (h1 : q.d = p.d) (h2 : q.i = p.i) : ((wtL K x b).set (4 + 2 * j) (q.i, drO K q)).set (4 + 2 * j + 1) (q.a, .lst q.vs) = wtL K { x with ds := x.ds.set j q } b := by
  rw [show 4 + 2 * j + 1 = 2 * j + 1 + 1 + 1 + 1 + 1 by omega, show 4 + 2 * j = 2 * j + 1 + 1 + 1 + 1 by omega]
  show _ :: _ :: _ :: _ :: ((drL K x.ds).set (2 * j) _).set (2 * j + 1) _ = _ :: _ :: _ :: (x.a3, HO.dK (drK (x.ds.set j _))) :: drL K (x.ds.set j _)
  rw [drK_set h h1 h2, drL_set (q := q) h]
theorem wtL_out {e : En} {B H : Hp} {x : WA} {b : Int} {ds : List Dr} (hs : ds.Sublist x.ds) (S : Sy e B H ((wtL K x b).set 3 (x.a3, .dK (drK ds)))) : Sy e B H (wtL K { x with ds := ds } b) :=
  S.sub (((((drL_sub hs).cons_cons _).cons_cons _).cons_cons _).cons_cons _)
theorem out_op {B : Hp} {U : List Str} {x : WA} {s : AS} (ok : WtOk K B U x s) (d : Int) : s.out d = (x.ds.filter fun q => !decide (q.d = d)).map Dr.op := by
  unfold AS.out
  rw [ok.op, List.filter_map]
  rfl
theorem WtOk.out {B : Hp} {U : List Str} {x : WA} {s : AS} (ok : WtOk K B U x s) (d : Int) : WtOk K B U { x with ds := x.ds.filter fun q => !decide (q.d = d) } { s with opn := s.out d } :=
  ⟨ok.sl, ok.sh, ok.kp, out_op ok d, fun q hq => ok.ws q (List.mem_filter.mp hq).1⟩
theorem fn_can_back (T : Tx w K mg) (fd : FuncData) (F : FunD K "can_back" "can_back" (defArgs s_can_back) (defBody s_can_back) (defScope s_can_back) [] [] (He.ga K "can_back") fd) : FnOk P w K mg base CX0 1 (He.ga K "can_back") fd ["witness", "rest"] (spY (φ_deed K "back")) := by
  refine fnM F sc_can_back (fun B vs L k h => by obtain ⟨_, _, _, _, _, _, _, _, _, rfl, _⟩ := h; rfl) (fun cdv A outer s H vs Q E B L e hz he hr S h => ?_)
  obtain ⟨x, s1, U, n, i0, r, ev, p, j, rfl, rfl, htag, g, hj, hpd, k⟩ := h
  refine ⟨_, (pss_cons (ps_asg (pv 1) (pg_unlK (K := K) (n := 2) rfl rfl (pgs_cons (pg_name (i := 2) sc_can_back.nd rfl (.inl rfl)) (pgs_cons (pg_name (i := 3) sc_can_back.nd rfl (.inl rfl)) pgs_nil))))
      (pss_cons (ps_set (i := 4) sc_can_back.nd rfl (.inl rfl) (pe_ix (ix_U (K := K) rfl (hu_of hr)) (pe_fldC T.cl_Witness T.na_Witness_doers (pv 0)) (pv 2) (fun _ _ => rfl)))
      (pss_cons (ps_if (PW.pt (pw_or (pt_cmpR op_ltU (pv 3) pe_int (nomark _)) (pw_or1 (pt_cmpR op_gtU (pv 3) (pe_callB (call_lenU (K := K) rfl) (by rfl) T.n_len (by decide +kernel) (pa_cons (pe_fldC T.cl_Doer T.na_Doer_writes (pv 4)) pa_nil)) (nomark _)))))
      (pss_one (ps_ret pe_bl))
      pss_nil)
      (pss_cons (ps_fldC T.cl_Doer T.na_Doer_writes (pv 4) (pe_slice (sl_U (K := K) rfl) (pe_fldC T.cl_Doer T.na_Doer_writes (pv 4)) po_none (po_some (pv 3))))
      (pss_one (ps_ret pe_bl)))))), ?_⟩
  walk_at "yn"
  cases ev <;> first | (exfalso; revert htag; simp only [evTag]; decide) | skip
  rename_i d m
  obtain ⟨ws, hr, rfl⟩ := g.re
  have hp := List.mem_of_getElem? hj
  have hpd : p.d = d := hpd
  subst hpd
  have nd2 := ds_nd g.ok g.aok
  have hv := drK_val nd2 hp
  have hvl : p.vs.length = p.ws.length := (g.ok.ws p hp).length
  obtain ⟨m1, m2⟩ := wtL_mem (K := K) (b := s1.base) hp
  have hc : s1.canB i0 (.back p.d m) = (decide (0 ≤ m) && decide (m ≤ p.ws.length)) := by
    show (match s1.find p.d with | none => false | some o => s1.deedB o (.back p.d m)) = _
    rw [find_p g.ok g.aok hp]
    rfl
  walk_at "yy"
  refine y_ixD (k := .inl p.d) (.inl (S.at 3 rfl)) rfl hv ?_
  walk_at "yy"
  refine y_ite (fun c1 => ?_) (fun c1 => ?_)
  · walk_at "yy"
    exact k.1 B _ (Same.refl _) (by rw [hc, decide_eq_false (by omega)]; rfl) _ S
  walk_at "yy"
  rw [hvl]
  refine y_ite (fun c2 => ?_) (fun c2 => ?_)
  · walk_at "yy"
    exact k.1 B _ (Same.refl _) (by rw [hc, decide_eq_false (p := m ≤ (p.ws.length : Nat)) (by omega), Bool.and_false]) _ S
  walk_at "yy"
  refine y_slL (sqL (S.ledM m2)) ?_
  rw [cut_to (by omega)]
  refine y_newM S fun nw H hnw0 S => ?_
  walk_at "yn"
  refine y_sfldK (1 + (4 + 2 * j)) S (by rw [Nat.add_comm]; exact (wtL_at hj).1) (Nat.le_of_ble_eq_true rfl) rfl fun H S => ?_
  rw [Nat.add_comm 1, List.set_cons_succ] at S
  have hat : ((wtL K x s1.base).set (4 + 2 * j) (p.i, drO K { p with a := nw, vs := p.vs.take m.toNat, ws := p.ws.take m.toNat }))[4 + 2 * j + 1]? = some (p.a, .lst p.vs) := by
    rw [List.getElem?_set_ne (by omega)]
    exact (wtL_at hj).2
  have e1 := wtL_new (K := K) (b := s1.base) (q := { p with a := nw, vs := p.vs.take m.toNat, ws := p.ws.take m.toNat }) hj rfl rfl
  have S : Sy e B H (wtL K { x with ds := x.ds.set j { p with a := nw, vs := p.vs.take m.toNat, ws := p.ws.take m.toNat } } s1.base) := by
    rw [← e1]
    exact Sy.swapIn (4 + 2 * j + 1) S hat
  walk_at "yn"
  exact k.2 { x with ds := x.ds.set j { p with a := nw, vs := p.vs.take m.toNat, ws := p.ws.take m.toNat } } B (Same.refl _) rfl (by rw [hc, decide_eq_true (p := 0 ≤ m) (by omega), decide_eq_true (p := m ≤ (p.ws.length : Nat)) (by omega)]; rfl) (g.ok.wr (f := (·.take m.toNat)) nd2 hj { p with a := nw, vs := p.vs.take m.toNat, ws := p.ws.take m.toNat } rfl (pr_take _ (g.ok.ws p hp))) _ S
theorem ok_can_back (T : Tx w K mg) : Ok P w K mg base 1 "can_back" ["witness", "rest"] (spY (φ_deed K "back")) :=
  Ok.of T.F_can_back T.g_can_back (fun _ _ _ _ _ _ us hl => match us, hl with | [_, _], _ => rfl) (fn_can_back T)
theorem fn_can_undo (T : Tx w K mg) (fd : FuncData) (F : FunD K "can_undo" "can_undo" (defArgs s_can_undo) (defBody s_can_undo) (defScope s_can_undo) [] [] (He.ga K "can_undo") fd) : FnOk P w K mg base CX0 1 (He.ga K "can_undo") fd ["witness", "rest"] (spY (φ_deed K "undo")) := by
  refine fnM F sc_can_undo (fun B vs L k h => by obtain ⟨_, _, _, _, _, _, _, _, _, rfl, _⟩ := h; rfl) (fun cdv A outer s H vs Q E B L e hz he hr S h => ?_)
  obtain ⟨x, s1, U, n, i0, r, ev, p, j, rfl, rfl, htag, g, hj, hpd, k⟩ := h
  refine ⟨_, (pss_cons (ps_expr (pe_dpop1 (pe_fldC T.cl_Witness T.na_Witness_doers (pv 0)) (pe_ix (ix_U (K := K) rfl (hu_of hr)) (pv 1) pe_int (fun _ _ => rfl)) (by exact ⟨rfl, rfl, rfl, rfl⟩)))
      (pss_one (ps_ret pe_bl))), ?_⟩
  walk_at "yn"
  cases ev <;> first | (exfalso; revert htag; simp only [evTag]; decide) | skip
  rename_i d
  obtain ⟨ws, hr, rfl⟩ := g.re
  have hp := List.mem_of_getElem? hj
  have hpd : p.d = d := hpd
  subst hpd
  have nd2 := ds_nd g.ok g.aok
  have hv := drK_val nd2 hp
  have hc : s1.canB i0 (.undo p.d) = true := by
    show (match s1.find p.d with | none => false | some o => s1.deedB o (.undo p.d)) = _
    rw [find_p g.ok g.aok hp]
    rfl
  walk_at "yn"
  refine ⟨x.a3, rfl, .inl ⟨_, .inl (S.at 3 rfl)⟩, ?_⟩
  walk_at "yn"
  refine ⟨_, .inl p.d, _, S.at 3 rfl, rfl, hv, ?_⟩
  have S := S.wr 3 rfl (.dK (dropK (drK x.ds) (.inl p.d)))
  rw [drK_drop] at S
  have S := wtL_out (List.filter_sublist) S
  rw [drK_drop]
  walk_at "yn"
  exact k.2 { x with ds := x.ds.filter fun q => !decide (q.d = p.d) } B (Same.refl _) rfl hc (g.ok.out p.d) _ S
theorem ok_can_undo (T : Tx w K mg) : Ok P w K mg base 1 "can_undo" ["witness", "rest"] (spY (φ_deed K "undo")) :=
  Ok.of T.F_can_undo T.g_can_undo (fun _ _ _ _ _ _ us hl => match us, hl with | [_, _], _ => rfl) (fn_can_undo T)

theorem atI_lastG {xs : List V} {n : Nat} {v : V} (h : xs[n]? = some v) (hl : xs.length = n + 1) : atI xs (-1) = some v := by
  unfold atI ixN
  rw [if_neg (by decide), if_pos (by omega), Option.bind_some, show ((-1 : Int) + (xs.length : Nat)).toNat = n by omega]
  exact h
theorem sheet_old {s : AS} {q : Int × Wr} {i : Nat} (hi : i ≤ s.kept.length) (key : Str) (ops : List Op) : AS.sheet { s with kept := s.kept ++ [q], opn := ops } i key = s.sheet i key := by
  unfold AS.sheet
  show wsGet (((s.kept ++ [q]).take i).flatMap (·.2)) key (lookS s.start key) = _
  rw [List.take_append_of_le_length hi]
theorem sheet_new {s : AS} {q : Int × Wr} (key : Str) (ops : List Op) : AS.sheet { s with kept := s.kept ++ [q], opn := ops } (s.kept.length + 1) key = wsGet q.2 key (s.sheet s.kept.length key) := by
  unfold AS.sheet
  show wsGet (((s.kept ++ [q]).take (s.kept.length + 1)).flatMap (·.2)) key (lookS s.start key) = _
  rw [List.take_of_length_le (by rw [List.length_append]; exact Nat.le_refl _), List.take_length, List.flatMap_append, List.flatMap_singleton, wsGet_append]
theorem fn_can_keep (T : Tx w K mg) (fd : FuncData) (F : FunD K "can_keep" "can_keep" (defArgs s_can_keep) (defBody s_can_keep) (defScope s_can_keep) [] [] (He.ga K "can_keep") fd) : FnOk P w K mg base CX0 2 (He.ga K "can_keep") fd ["witness", "rest"] (spY (φ_deed K "keep")) := by
  refine fnM F sc_can_keep (fun B vs L k h => by obtain ⟨_, _, _, _, _, _, _, _, _, rfl, _⟩ := h; rfl) (fun cdv A outer s H vs Q E B L e hz he hr S h => ?_)
  obtain ⟨x, s1, U, n, i0, r, ev, p, j, rfl, rfl, htag, g, hj, hpd, k⟩ := h
  refine ⟨_, (pss_cons (ps_asg (pv 1) (pg_unlK (K := K) (n := 2) rfl rfl (pgs_cons (pg_name (i := 2) sc_can_keep.nd rfl (.inl rfl)) (pgs_cons (pg_name (i := 3) sc_can_keep.nd rfl (.inl rfl)) pgs_nil))))
      (pss_cons (ps_if (pt_cmpR (op_neZ (K := K) rfl hr.units) (pv 3) (pe_op (op_addU (K := K) rfl) (pe_mO0 (okm_Witness_last_place (K := K) T) T.cl_Witness hr (pv 0)) pe_int) (nomark _))
      (pss_one (ps_ret pe_bl))
      pss_nil)
      (pss_cons (ps_set (i := 4) sc_can_keep.nd rfl (.inl rfl) (pe_dpop1 (pe_fldC T.cl_Witness T.na_Witness_doers (pv 0)) (pv 2) (by exact ⟨rfl, rfl, rfl, rfl⟩)))
      (pss_cons (ps_set (i := 5) sc_can_keep.nd rfl (.inl rfl) (pe_callTy (call_dictU (K := K) rfl rfl) (by rfl) T.n_dict (by decide +kernel) (pa_cons (pe_ix (ix_U (K := K) rfl (hu_of hr)) (pe_fldC T.cl_Witness T.na_Witness_sheets (pv 0)) (pe_un un_negU pe_int) (fun _ _ => rfl)) pa_nil)))
      (pss_cons (ps_for PassesOwn.never rfl (pi_listK (K := K) rfl (pe_fldC T.cl_Doer T.na_Doer_writes (pv 4))) (pg_tupK (K := K) (n := 2) rfl rfl (pgs_cons (pg_name (i := 6) sc_can_keep.nd rfl (.inl rfl)) (pgs_cons (pg_name (i := 7) sc_can_keep.nd rfl (.inl rfl)) pgs_nil)))
      (pss_one (ps_asg (pv 7) (pg_sub (pv 5) (pv 6) (set_U (hu_of hr))))))
      (pss_cons (ps_expr (pe_bmK (K := K) (id := "list.append") rfl (pe_bm PySem.F.plainAttrs_list PySem.F.slot_list_append PySem.F.type_list_append mt_append (pe_fldC T.cl_Witness T.na_Witness_sheets (pv 0)) (pa_cons (pv 5) pa_nil))))
      (pss_cons (ps_expr (pe_bmK (K := K) (id := "list.append") rfl (pe_bm PySem.F.plainAttrs_list PySem.F.slot_list_append PySem.F.type_list_append mt_append (pe_fldC T.cl_Witness T.na_Witness_keepers (pv 0)) (pa_cons (pe_tup (pa_cons (pv 2) (pa_cons (pe_lc (own := [("key", 6), ("worth", 7)]) (by rfl) sc_can_keep.nd (pi_listK (K := K) rfl (pe_fldC T.cl_Doer T.na_Doer_writes (pv 4))) (blkOk_by (own := [("key", 6), ("worth", 7)]) (N := ["witness", "rest", "dealing", "place", "doer", "sheet", "key", "worth"]) (sc := defScope s_can_keep) (by decide +kernel)) (fun _ _ _ _ _ => (pg_tupK (K := K) (n := 2) rfl rfl (pgs_cons (pg_name (i := 6) sc_can_keep.nd rfl (.inl rfl)) (pgs_cons (pg_name (i := 7) sc_can_keep.nd rfl (.inl rfl)) pgs_nil)))) (fun _ _ _ _ _ => pts_nil) (fun _ _ _ _ _ => (pv 6))) pa_nil))) pa_nil))))
      (pss_one (ps_ret pe_bl))))))))), ?_⟩
  walk_at "yn"
  cases ev <;> first | (exfalso; revert htag; simp only [evTag]; decide) | skip
  rename_i d pl
  obtain ⟨ws, hr, rfl⟩ := g.re
  have hp := List.mem_of_getElem? hj
  have hpd : p.d = d := hpd
  subst hpd
  have nd2 := ds_nd g.ok g.aok
  have hv := drK_val nd2 hp
  have hnl := g.nl
  have hul := g.ul
  have hsl := g.ok.sl
  have hkl := g.aok.kl
  have hkvl : x.kv.length = s1.kept.length := by have := g.ok.kp.length; rw [List.length_map] at this; exact this
  have hvp := g.ok.ws p hp
  have hvl : p.vs.length = p.ws.length := hvp.length
  have hop : p.op ∈ s1.opn := by rw [g.ok.op]; exact List.mem_map.mpr ⟨p, hp, rfl⟩
  have hwl : p.ws.length ≤ n := g.aok.wl p.op hop
  have hwu : ∀ q ∈ p.ws, q.1 ∈ U := g.aok.wu p.op hop
  have hc : s1.canB i0 (.keep p.d pl) = decide (pl = s1.places + 1) := by
    show (match s1.find p.d with | none => false | some o => s1.deedB o (.keep p.d pl)) = _
    rw [find_p g.ok g.aok hp]
    rfl
  have hhap : s1.happens (.keep p.d pl) = { s1 with kept := s1.kept ++ [(p.d, p.ws)], opn := s1.out p.d } := by
    show ({ s1 with kept := s1.kept ++ (match s1.find p.d with | none => [] | some o => [(p.d, o.ws)]), opn := s1.out p.d } : AS) = _
    rw [find_p g.ok g.aok hp]
    rfl
  walk_at "yy"
  refine y_spG (L := wtL K x s1.base) (R := []) (by rw [List.append_nil]; exact S) ⟨x, s1, U, rfl, rfl, g.ok, fun H T => ?_⟩
  obtain ⟨-, S, -⟩ := Sy.backG (R := []) (by rw [List.append_nil]; exact S) T
  clear T
  rw [List.append_nil] at S
  walk_at "yy"
  refine y_iteIN (fun c => ?_) (fun c => ?_)
  · walk_at "yy"
    exact k.1 B _ (Same.refl _) (by rw [hc]; exact decide_eq_false c) _ S
  walk_at "yy"
  refine ⟨x.a3, rfl, .inl ⟨_, .inl (S.at 3 rfl)⟩, ?_⟩
  walk_at "yn"
  refine ⟨_, .inl p.d, _, S.at 3 rfl, rfl, hv, ?_⟩
  replace S := S.wr 3 rfl (.dK (dropK (drK x.ds) (.inl p.d)))
  rw [drK_drop] at S
  rw [drK_drop]
  generalize hds : (x.ds.filter fun q => !decide (q.d = p.d)) = ds at S
  have hsub : ds.Sublist x.ds := by rw [← hds]; exact List.filter_sublist
  obtain ⟨m1, m2⟩ := drL_mem (K := K) hp
  replace S : Sy e B _ ((x.wt, wtO K x s1.base) :: (x.a1, .lst x.sv) :: (x.a2, .lst x.kv) :: (x.a3, .dK (drK ds)) :: drL K x.ds) := S
  generalize hL : ((x.wt, wtO K x s1.base) :: (x.a1, HO.lst x.sv) :: (x.a2, HO.lst x.kv) :: (x.a3, HO.dK (drK ds)) :: drL K x.ds : Led) = L1 at S
  have m1 : (p.i, drO K p) ∈ L1 := by rw [← hL]; simp only [List.mem_cons]; exact .inr (.inr (.inr (.inr m1)))
  have m2 : (p.a, HO.lst p.vs) ∈ L1 := by rw [← hL]; simp only [List.mem_cons]; exact .inr (.inr (.inr (.inr m2)))
  have m3 : (x.wt, wtO K x s1.base) ∈ L1 := by rw [← hL]; exact List.mem_cons_self
  have m4 : (x.a1, HO.lst x.sv) ∈ L1 := by rw [← hL]; exact List.mem_cons_of_mem _ List.mem_cons_self
  have m5 : (x.a2, HO.lst x.kv) ∈ L1 := by rw [← hL]; exact List.mem_cons_of_mem _ (List.mem_cons_of_mem _ List.mem_cons_self)
  obtain ⟨v, hv0⟩ : ∃ v, x.sv[s1.kept.length]? = some v := ⟨_, List.getElem?_eq_getElem (by omega)⟩
  obtain ⟨sd, kv0, rfl, hsd, hs0⟩ := g.ok.sh _ v hv0
  walk_at "yn"
  refine y_ixL (sqL (S.ledM m4)) (atI_lastG hv0 hsl) ?_
  walk_at "yn"
  refine y_dictD (S.rd hsd) ?_
  refine y_newM S fun sh H hsh0 S => ?_
  walk_at "yn"
  refine y_forL (xs := p.vs) (fun i σ H => ∃ kvs, (∃ (y1 y3 y6 y7 : Option V), σ = [some (.ref x.wt), y1, some (.int p.d), y3, some (.ref p.i), some (.ref sh), y6, y7]) ∧ Sy e B H ((sh, .dK kvs) :: L1) ∧ SheetOk U kvs (fun key => wsGet (p.ws.take i) key (s1.sheet s1.kept.length key))) ⟨kv0, ⟨_, _, _, _, rfl⟩, S, hs0⟩ (fun i σ H hi ⟨_, _, S, _⟩ => sqL (S.ledM1 m2)) ?_ ?_
  · clear S
    rintro i y σ H hy ⟨kvs, ⟨y1, y3, y6, y7, rfl⟩, S, hs⟩
    obtain ⟨q, hq, hyq⟩ := pr_getL hvp hy
    obtain ⟨t, rfl, ht⟩ := wAt hyq
    have hqu := hwu q (List.mem_of_getElem? hq)
    have hlen := hs.len
    walk_at "yn"
    refine y_setD (kk := .inr q.1) 0 S rfl rfl (lenLt (by omega)) fun H S => ?_
    try simp only [List.set] at S
    exact ⟨_, ⟨_, _, _, _, rfl⟩, S, (hs.put hqu q.2).congr fun key => (wsGet_step hq key _).symm⟩
  clear S
  rintro σ H ⟨kvs, ⟨y1, y3, y6, y7, rfl⟩, S, hs⟩
  rw [hvl, List.take_length] at hs
  obtain ⟨B1, b1, hsh, S⟩ := S.frz 0 rfl hsh0
  try simp only [List.eraseIdx] at S
  walk_at "yn"
  subst hL
  refine y_app 1 S rfl (lenLt (by omega)) fun H S => ?_
  try simp only [List.set] at S
  generalize hL : ((x.wt, wtO K x s1.base) :: (x.a1, HO.lst (x.sv ++ [V.ref sh])) :: (x.a2, HO.lst x.kv) :: (x.a3, HO.dK (drK ds)) :: drL K x.ds : Led) = L2 at S
  obtain ⟨m1, m2⟩ := drL_mem (K := K) hp
  have m1 : (p.i, drO K p) ∈ L2 := by rw [← hL]; simp only [List.mem_cons]; exact .inr (.inr (.inr (.inr m1)))
  have m2 : (p.a, HO.lst p.vs) ∈ L2 := by rw [← hL]; simp only [List.mem_cons]; exact .inr (.inr (.inr (.inr m2)))
  have m3 : (x.wt, wtO K x s1.base) ∈ L2 := by rw [← hL]; exact List.mem_cons_self
  have m5 : (x.a2, HO.lst x.kv) ∈ L2 := by rw [← hL]; exact List.mem_cons_of_mem _ (List.mem_cons_of_mem _ List.mem_cons_self)
  walk_at "yn"
  refine y_lcRel (At .str K) at_up (walk_list (xs := p.vs)) S (by omega) (fun i => p.ws[i]?.bind fun z => some z.1) (fun B3 H1 D acc b3 S1 => sqL (S1.ledM1 m2)) (fun i y B3 H1 H1' acc D Kp Kn hi b3 S hy kp kn => ?_) (fun B3 H acc D b3 hD hp3 S => ?_)
  · obtain ⟨rfl, e2⟩ := hy
    obtain ⟨z, hz, hyz⟩ := pr_getL hvp e2
    obtain ⟨t, rfl, ht⟩ := wAt (hyz.up (b1.trans b3))
    walk_at "yn"
    exact kp _ _ _ _ (by rw [hz]; rfl) (Same.refl _) .str S
  rw [hvl, range_bind, fm_some] at hp3
  obtain ⟨B4, b4, hD4, S⟩ := S.frz 0 rfl hD
  try simp only [List.eraseIdx] at S
  walk_at "yn"
  refine y_newI S fun t B5 H b5 ht _ S => ?_
  walk_at "yn"
  subst hL
  refine y_app 2 S rfl (lenLt (by omega)) fun H S => ?_
  try simp only [List.set] at S
  replace S := S.sub (L' := wtL K { x with sv := x.sv ++ [.ref sh], kv := x.kv ++ [.ref t], ds := ds } s1.base) (((((drL_sub hsub).cons_cons _).cons_cons _).cons_cons _).cons_cons _)
  have b15 : Same B B5 := by walk_at "up"
  have hkt : At (.tup2 .int cS) K B5 (.ref t) (p.d, p.ws.map (·.1)) := .tup2 (sqT ht) .int (.list (sqL (up_o b5 hD4)) (pr_up at_up (b4.trans b5) hp3))
  have hwt : WtOk K B5 U { x with sv := x.sv ++ [.ref sh], kv := x.kv ++ [.ref t], ds := ds } { s1 with kept := s1.kept ++ [(p.d, p.ws)], opn := s1.out p.d } := by
    refine ⟨by show (x.sv ++ [_]).length = (s1.kept ++ [_]).length + 1; rw [List.length_append, List.length_append]; simp; omega, fun i v hv => ?_, ?_, by rw [← hds]; exact out_op g.ok p.d, fun q hq => pr_up at_up b15 (g.ok.ws q (hsub.subset hq))⟩
    · have hv : (x.sv ++ [V.ref sh])[i]? = some v := hv
      by_cases ci : i < x.sv.length
      · rw [List.getElem?_append_left ci] at hv
        obtain ⟨dd, kk, e1, e2, e3⟩ := g.ok.sh i v hv
        exact ⟨dd, kk, e1, b15 _ _ e2, e3.congr fun key => (sheet_old (by omega) key _).symm⟩
      · rw [List.getElem?_append_right (by omega)] at hv
        have ei : i - x.sv.length = 0 := by
          have := (List.getElem?_eq_some_iff.mp hv).1
          simp at this
          omega
        rw [ei] at hv
        cases hv
        have ei2 : i = s1.kept.length + 1 := by omega
        subst ei2
        exact ⟨sh, kvs, rfl, up_o (b3.trans (b4.trans b5)) hsh, hs.congr fun key => (sheet_new (s := s1) (q := (p.d, p.ws)) key _).symm⟩
    · show Paired _ (x.kv ++ [.ref t]) ((s1.kept ++ [(p.d, p.ws)]).map _)
      rw [List.map_append]
      exact pr_app (pr_up at_up b15 g.ok.kp) (.cons hkt .nil)
  walk_at "yn"
  have := k.2 { x with sv := x.sv ++ [.ref sh], kv := x.kv ++ [.ref t], ds := ds } B5 b15 rfl (by rw [hc]; exact decide_eq_true c)
  rw [hhap] at this
  exact this hwt _ S
theorem ok_can_keep (T : Tx w K mg) : Ok P w K mg base 2 "can_keep" ["witness", "rest"] (spY (φ_deed K "keep")) :=
  Ok.of T.F_can_keep T.g_can_keep (fun _ _ _ _ _ _ us hl => match us, hl with | [_, _], _ => rfl) (fn_can_keep T)

theorem valV_some {kvs : List (Key × V)} {k : Key} (h : k ∈ kvs.map (·.1)) : ∃ v, valV kvs k = some v := by
  cases q : valV kvs k with
  | some v => exact ⟨v, rfl⟩
  | none =>
    exfalso
    obtain ⟨p, hp, e⟩ := List.mem_map.mp h
    unfold valV at q
    rw [Option.map_eq_none_iff, List.find?_eq_none] at q
    exact q p hp (decide_eq_true e)
theorem fn_can_scan (T : Tx w K mg) (fd : FuncData) (F : FunD K "can_scan" "can_scan" (defArgs s_can_scan) (defBody s_can_scan) (defScope s_can_scan) [] [] (He.ga K "can_scan") fd) : FnOk P w K mg base CX0 2 (He.ga K "can_scan") fd ["witness", "rest"] (spY (φ_deed K "scan")) := by
  refine fnM F sc_can_scan (fun B vs L k h => by obtain ⟨_, _, _, _, _, _, _, _, _, rfl, _⟩ := h; rfl) (fun cdv A outer s H vs Q E B L e hz he hr S h => ?_)
  obtain ⟨x, s1, U, n, i0, r, ev, p, j, rfl, rfl, htag, g, hj, hpd, k⟩ := h
  refine ⟨_, (pss_cons (ps_asg (pv 1) (pg_unlK (K := K) (n := 4) rfl rfl (pgs_cons (pg_name (i := 2) sc_can_scan.nd rfl (.inl rfl)) (pgs_cons (pg_name (i := 3) sc_can_scan.nd rfl (.inr rfl)) (pgs_cons (pg_name (i := 4) sc_can_scan.nd rfl (.inr rfl)) (pgs_cons (pg_name (i := 5) sc_can_scan.nd rfl (.inl rfl)) pgs_nil))))))
      (pss_cons (ps_set (i := 6) sc_can_scan.nd rfl (.inr rfl) (pe_callO (ok_view_of (K := K) T) hr (by rfl) (pa_cons (pv 0) (pa_cons (pe_ix (ix_U (K := K) rfl (hu_of hr)) (pe_fldC T.cl_Witness T.na_Witness_doers (pv 0)) (pv 2) (fun _ _ => rfl)) pa_nil))))
      (pss_one (ps_ret (pe_cmpR (op_eqZ (K := K) rfl hr.units) (pv 5) (pe_lc (own := [("key", 7)]) (by rfl) sc_can_scan.nd (pi_listK (K := K) rfl (pe_callB (call_sortedW (P := P) (w := w) (K := K) rfl rfl rfl rfl hr.units) (by rfl) T.n_sorted (by decide +kernel) (pa_cons (pv 6) pa_nil))) (blkOk_by (own := [("key", 7)]) (N := ["witness", "rest", "dealing", "low", "high", "rows", "view", "key"]) (sc := defScope s_can_scan) (by decide +kernel)) (fun _ _ _ _ _ => (pg_name (i := 7) sc_can_scan.nd rfl (.inl rfl))) (fun _ _ _ _ _ => (pts_one (pt_chain op_leU op_ltU (pv 3) (pv 7) (pv 4)))) (fun _ _ _ _ _ => (pe_tup (pa_cons (pv 7) (pa_cons (pe_ix (ix_U (K := K) rfl (hu_of hr)) (pv 6) (pv 7) (fun _ _ => rfl)) pa_nil))))) (nomark _)))))), ?_⟩
  walk_at "yn"
  cases ev <;> first | (exfalso; revert htag; simp only [evTag]; decide) | skip
  rename_i d lo hi rows
  obtain ⟨ws, hr, ra, rfl, hra⟩ := g.re
  have hp := List.mem_of_getElem? hj
  have hpd : p.d = d := hpd
  subst hpd
  have hv := drK_val (ds_nd g.ok g.aok) hp
  have hnl := g.nl
  have hul := g.ul
  have hc : s1.canB i0 (.scan p.d lo hi rows) = decide (rows = s1.scanned p.op lo hi) := by
    show (match s1.find p.d with | none => false | some o => s1.deedB o (.scan p.d lo hi rows)) = _
    rw [find_p g.ok g.aok hp]
    rfl
  walk_at "yn"
  refine y_ixD (k := .inl p.d) (.inl (S.at 3 rfl)) rfl hv ?_
  walk_at "yn"
  refine y_spG (L := wtL K x s1.base) (R := []) (by rw [List.append_nil]; exact S) ⟨x, s1, U, n, p, rfl, rfl, g.ok, g.aok, g.ul, by omega, hp, fun vd kvs B1 b1 hvd hs hi2 H T => ?_⟩
  obtain ⟨-, S, -⟩ := Sy.backG (R := []) (by rw [List.append_nil]; exact S) T
  clear T
  rw [List.append_nil] at S
  obtain ⟨ks, hk1, hk2, hk3⟩ := hs.strs
  have hkl : ks.length ≤ 100 := Nat.le_trans (nodup_le hk2 hk3) hul
  have hpm := List.mergeSort_perm ks strLe
  walk_at "yn"
  refine y_sortDS (S.rd hvd) hk1 ?_
  refine y_newI S fun sl B2 H b2 hsl _ S => ?_
  have hsa : At (.list .str) K B2 (.ref sl) (ks.mergeSort strLe) := .list (sqL hsl) (pr_strs _)
  walk_at "yn"
  refine y_lcI (cx := .str) (cy := .tup2 .str .int) (fun key => if (!decide (sg key < sg lo) && decide (sg key < sg hi)) = true then (s1.sees p.op key).map fun w => (key, w) else none) S hsa (by rw [hpm.length_eq]; omega) (fun i z y B4 H7 D acc Kp Kn hz b4 hy S kp kn => ?_) (fun D B4 H b4 hD hl4 S => ?_)
  · have e1 := at_str hy
    subst e1
    have hzk : z ∈ ks := hpm.mem_iff.mp (List.mem_of_getElem? hz)
    obtain ⟨v0, hv0⟩ := valV_some (kvs := kvs) (k := .inr z) (by rw [hk1]; exact List.mem_map.mpr ⟨z, hzk, rfl⟩)
    have hv1 := valO_get hs hi2 z
    rw [hv0] at hv1
    obtain ⟨w1, hw1, hw2⟩ := Option.map_eq_some_iff.mp hv1.symm
    subst hw2
    walk_at "yn"
    rw [show decide (z.cps.toList < lo.cps.toList) = decide (sg z < sg lo) from rfl]
    by_cases c1 : sg z < sg lo
    · rw [decide_eq_true c1]
      walk_at "yn"
      exact kn _ _ (by rw [decide_eq_true c1]; rfl) (Same.refl _) S
    · rw [decide_eq_false c1]
      walk_at "yn"
      rw [show decide (z.cps.toList < hi.cps.toList) = decide (sg z < sg hi) from rfl]
      by_cases c2 : sg z < sg hi
      · rw [decide_eq_true c2]
        walk_at "yn"
        refine y_ixD (k := .inr z) (S.rd (up_o (by walk_at "up") hvd)) rfl hv0 ?_
        walk_at "yn"
        refine y_newI S fun t B5 H b5 ht _ S => ?_
        exact kp _ (z, w1) _ _ (by rw [decide_eq_false c1, decide_eq_true c2, hw1]; rfl) b5 (.tup2 (sqT ht) .str .int) S
      · rw [decide_eq_false c2]
        walk_at "yn"
        exact kn _ _ (by rw [decide_eq_false c1, decide_eq_false c2]; rfl) (Same.refl _) S
  have e9 : ((ks.mergeSort strLe).filterMap fun key => if (!decide (sg key < sg lo) && decide (sg key < sg hi)) = true then (s1.sees p.op key).map fun w => (key, w) else none) = s1.scanned p.op lo hi := by
    refine IsRows.uniq (rows_of (sorted_lt (hpm.nodup_iff.mpr hk2) (List.pairwise_mergeSort strLe_trans strLe_total _)) fun key w0 hw => hpm.mem_iff.mpr ?_) (s1.scanned_is p.op lo hi)
    have h1 := valO_get hs hi2 key
    rw [hw] at h1
    have h2 := valV_in h1
    rw [hk1] at h2
    obtain ⟨z, hz, e⟩ := List.mem_map.mp h2
    rw [← Sum.inr.inj e]
    exact hz
  rw [e9] at hl4
  walk_at "yn"
  refine y_eqC rwC S (hra.up (by walk_at "up")) hl4 (by decide) ?_
  by_cases c : rows = s1.scanned p.op lo hi
  · rw [decide_eq_true c]
    exact k.2 x B4 (by walk_at "up") rfl (by rw [hc]; exact decide_eq_true c) (g.ok.up (by walk_at "up")) _ S
  · rw [decide_eq_false c]
    exact k.1 B4 _ (by walk_at "up") (by rw [hc]; exact decide_eq_false c) _ S
theorem ok_can_scan (T : Tx w K mg) : Ok P w K mg base 2 "can_scan" ["witness", "rest"] (spY (φ_deed K "scan")) :=
  Ok.of T.F_can_scan T.g_can_scan (fun _ _ _ _ _ _ us hl => match us, hl with | [_, _], _ => rfl) (fn_can_scan T)

theorem kp_nums {B : Hp} {vs : List V} {kept : List (Int × Wr)} (h : Paired (At (.tup2 .int cS) K B) vs (kept.map fun p => (p.1, p.2.map (·.1)))) : vs.length = kept.length := by
  have := h.length
  rw [List.length_map] at this
  exact this
theorem wtL_snoc {e : En} {B H : Hp} {x : WA} {b : Int} {q : Dr} (h : ∀ p ∈ x.ds, p.d ≠ q.d) (S : Sy e B H ((q.i, drO K q) :: (q.a, .lst q.vs) :: (wtL K x b).set 3 (x.a3, .dK (putK (drK x.ds) (.inl q.d) (.ref q.i))))) : Sy e B H (wtL K { x with ds := x.ds ++ [q] } b) := by
  have e1 : putK (drK x.ds) (.inl q.d) (.ref q.i) = drK (x.ds ++ [q]) := by
    rw [putK_new _ (drK_none h)]
    unfold drK
    rw [List.map_append]
    rfl
  rw [e1] at S
  refine S.perm ?_
  show List.Perm ([(q.i, drO K q), (q.a, HO.lst q.vs)] ++ ((x.wt, wtO K x b) :: (x.a1, HO.lst x.sv) :: (x.a2, HO.lst x.kv) :: (x.a3, HO.dK (drK (x.ds ++ [q]))) :: drL K x.ds)) ((x.wt, wtO K x b) :: (x.a1, HO.lst x.sv) :: (x.a2, HO.lst x.kv) :: (x.a3, HO.dK (drK (x.ds ++ [q]))) :: drL K (x.ds ++ [q]))
  rw [drL_append]
  exact List.perm_append_comm
theorem fn_can_begin (T : Tx w K mg) (fd : FuncData) (F : FunD K "can_begin" "can_begin" (defArgs s_can_begin) (defBody s_can_begin) (defScope s_can_begin) [] [] (He.ga K "can_begin") fd) : FnOk P w K mg base CX0 3 (He.ga K "can_begin") fd ["witness", "rest"] (spY (φ_can K "begin")) := by
  refine fnM F sc_can_begin (fun B vs L k h => by obtain ⟨_, _, _, _, _, _, _, rfl, _⟩ := h; rfl) (fun cdv A outer s H vs Q E B L e hz he hr S h => ?_)
  obtain ⟨x, s1, U, n, i0, r, ev, rfl, rfl, htag, g, k⟩ := h
  refine ⟨_, (pss_cons (ps_set (i := 2) sc_can_begin.nd rfl (.inl rfl) (pe_ix (ix_U (K := K) rfl (hu_of hr)) (pv 1) pe_int (fun _ _ => rfl)))
      (pss_cons (ps_if (PW.pt (pw_or (pt_cmpR op_ltU (pv 2) pe_int (nomark _)) (pw_or (pt_cmpR (op_inZ (K := K) rfl hr.units) (pv 2) (pe_fldC T.cl_Witness T.na_Witness_doers (pv 0)) (by rfl)) (pw_or1 (pt_cmpR (op_inZ (K := K) rfl hr.units) (pv 2) (pe_lc (own := [("one", 3), ("keys", 4)]) (by rfl) sc_can_begin.nd (pi_listK (K := K) rfl (pe_fldC T.cl_Witness T.na_Witness_keepers (pv 0))) (blkOk_by (own := [("one", 3), ("keys", 4)]) (N := ["witness", "rest", "dealing", "one", "keys"]) (sc := defScope s_can_begin) (by decide +kernel)) (fun _ _ _ _ _ => (pg_tupK (K := K) (n := 2) rfl rfl (pgs_cons (pg_name (i := 3) sc_can_begin.nd rfl (.inl rfl)) (pgs_cons (pg_name (i := 4) sc_can_begin.nd rfl (.inl rfl)) pgs_nil)))) (fun _ _ _ _ _ => pts_nil) (fun _ _ _ _ _ => (pv 3))) (by rfl))))))
      (pss_one (ps_ret pe_bl))
      pss_nil)
      (pss_cons (ps_asg (pe_iO (oki_Doer (K := K) T) hr (by rfl) (pa_cons (pe_mO0 (okm_Witness_last_place (K := K) T) T.cl_Witness (hr.mono (by decide)) (pv 0)) pa_nil)) (pg_sub (pe_fldC T.cl_Witness T.na_Witness_doers (pv 0)) (pv 2) (set_U (hu_of hr))))
      (pss_one (ps_ret pe_bl))))), ?_⟩
  walk_at "yn"
  cases ev <;> first | (exfalso; revert htag; simp only [evTag]; decide) | skip
  rename_i d
  obtain ⟨ws, hr, rfl⟩ := g.re
  have hnl := g.nl
  have hol := g.aok.ol
  have hkl := g.aok.kl
  have hdl : x.ds.length = s1.opn.length := by rw [g.ok.op, List.length_map]
  have hkvl := kp_nums g.ok.kp
  have hc : s1.canB i0 (.begin d) = (decide (0 < d) && (!(s1.find d).isSome && !(s1.kept.any fun p => decide (p.1 = d)))) := rfl
  walk_at "yn"
  refine y_ifS ?_
  walk_at "yy"
  refine y_ite (fun c1 => ?_) (fun c1 => ?_)
  · walk_at "yy"
    exact k.1 B _ (Same.refl _) (by rw [hc, decide_eq_false (by omega)]; rfl) _ S
  walk_at "yy"
  refine z_inD (k := .inl d) (.inl (S.at 3 rfl)) rfl ?_
  rcases g.ok.find g.aok.nd d with ⟨hf, hv⟩ | ⟨p, j, hj, hpd, hf, hv⟩
  · rw [hv]
    rw [show (none : Option V).isSome = false from rfl]
    walk_at "yy"
    refine y_lcRel (At .int K) at_up (walk_list (xs := x.kv)) S (by omega) (fun i => s1.kept[i]?.bind fun z => some z.1) (fun B3 H1 D acc b3 S1 => sqL (S1.at 3 rfl)) (fun i y B3 H1 H1' acc D Kp Kn hi b3 S hy kp kn => ?_) (fun B3 H acc D b3 hD hp3 S => ?_)
    · obtain ⟨rfl, e2⟩ := hy
      obtain ⟨z, hz, hyz⟩ := pr_getL g.ok.kp e2
      rw [List.getElem?_map] at hz
      obtain ⟨q, hq, rfl⟩ := Option.map_eq_some_iff.mp hz
      obtain ⟨t, v1, v2, rfl, ht, h1, h2⟩ := at_tup2 (hyz.up b3)
      rw [at_int h1] at ht
      walk_at "yn"
      exact kp _ _ _ _ (by rw [hq]; rfl) (Same.refl _) .int S
    rw [hkvl, range_bind, fm_some] at hp3
    obtain ⟨B4, b4, hD4, S⟩ := S.frz 0 rfl hD
    try simp only [List.eraseIdx] at S
    refine y_inC .int S .int (.list (sqL hD4) (pr_up at_up b4 hp3)) (by decide) ?_
    have e5 : (s1.kept.any fun p => decide (p.1 = d)) = decide (d ∈ s1.kept.map (·.1)) := by
      rw [Bool.eq_iff_iff, List.any_eq_true, decide_eq_true_iff, List.mem_map]
      exact ⟨fun ⟨p, hp, e⟩ => ⟨p, hp, of_decide_eq_true e⟩, fun ⟨p, hp, e⟩ => ⟨p, hp, decide_eq_true e⟩⟩
    rw [hf, e5] at hc
    walk_at "yy"
    refine y_ite (fun c2 => ?_) (fun c2 => ?_)
    · walk_at "yy"
      exact k.1 B4 _ (b3.trans b4) (by rw [hc, decide_eq_true c2]; simp) _ S
    rw [decide_eq_false c2, decide_eq_true (show 0 < d by omega)] at hc
    have ok4 := g.ok.up (b3.trans b4)
    walk_at "yy"
    refine y_spG (L := wtL K x s1.base) (R := []) (by rw [List.append_nil]; exact S) ⟨x, s1, U, rfl, rfl, ok4, fun H T => ?_⟩
    obtain ⟨-, S, -⟩ := Sy.backG (R := []) (by rw [List.append_nil]; exact S) T
    clear T
    rw [List.append_nil] at S
    walk_at "yn"
    refine y_makK S fun nx dxx B1 H bM hx0 S => ⟨nx, dxx, s1.places, rfl, rfl, fun na H T => ⟨rfl, ?_⟩⟩
    obtain ⟨-, S, -⟩ := Sy.backG (L := [_]) S T
    clear T
    try simp only [List.cons_append, List.nil_append] at S
    walk_at "yn"
    refine y_setD (kk := .inl d) 5 S rfl rfl (lenLt (by unfold drK; rw [List.length_map]; omega)) fun H S => ?_
    have hnew : ∀ p ∈ x.ds, p.d ≠ d := fun p hp => AS.find_none hf p.op (by rw [g.ok.op]; exact List.mem_map.mpr ⟨p, hp, rfl⟩)
    have S := wtL_snoc (q := ⟨d, s1.places, nx, dxx, na, [], []⟩) hnew S
    walk_at "yn"
    have bb : Same B B1 := by walk_at "up"
    have ok5 := g.ok.up bb
    refine k.2 { x with ds := x.ds ++ [⟨d, s1.places, nx, dxx, na, [], []⟩] } B1 bb rfl (by rw [hc]; rfl) ⟨ok5.sl, ok5.sh, ok5.kp, ?_, fun q hq => ?_⟩ _ S
    · show s1.opn ++ [_] = (x.ds ++ [_]).map Dr.op
      rw [List.map_append, ← ok5.op]
      rfl
    · rcases List.mem_append.mp hq with hq | hq
      · exact ok5.ws q hq
      · rw [List.mem_singleton.mp hq]
        exact .nil
  · rw [hv]
    rw [show (some (V.ref p.i)).isSome = true from rfl]
    walk_at "yy"
    exact k.1 B _ (Same.refl _) (by rw [hc, hf]; simp) _ S
theorem ok_can_begin (T : Tx w K mg) : Ok P w K mg base 3 "can_begin" ["witness", "rest"] (spY (φ_can K "begin")) :=
  Ok.of T.F_can_begin T.g_can_begin (fun _ _ _ _ _ _ us hl => match us, hl with | [_, _], _ => rfl) (fn_can_begin T)
theorem sheet_fall {s : AS} {m i : Nat} (h : i ≤ m) (key : Str) (ops : List Op) : AS.sheet { s with kept := s.kept.take m, opn := ops } i key = s.sheet i key := by
  unfold AS.sheet
  show wsGet (((s.kept.take m).take i).flatMap (·.2)) key (lookS s.start key) = _
  rw [List.take_take, Nat.min_eq_left h]
theorem fn_can_fall (T : Tx w K mg) (fd : FuncData) (F : FunD K "can_fall" "can_fall" (defArgs s_can_fall) (defBody s_can_fall) (defScope s_can_fall) [] [] (He.ga K "can_fall") fd) : FnOk P w K mg base CX0 1 (He.ga K "can_fall") fd ["witness", "rest"] (spY (φ_can K "fall")) := by
  refine fnM F sc_can_fall (fun B vs L k h => by obtain ⟨_, _, _, _, _, _, _, rfl, _⟩ := h; rfl) (fun cdv A outer s H vs Q E B L e hz he hr S h => ?_)
  obtain ⟨x, s1, U, n, i0, r, ev, rfl, rfl, htag, g, k⟩ := h
  refine ⟨_, (pss_cons (ps_set (i := 2) sc_can_fall.nd rfl (.inl rfl) (pe_op op_subU (pe_ix (ix_U (K := K) rfl (hu_of hr)) (pv 1) pe_int (fun _ _ => rfl)) (pe_fldC T.cl_Witness T.na_Witness_base (pv 0))))
      (pss_cons (ps_if (PW.pt (pw_or (pt_cmpR op_ltU (pv 2) pe_int (nomark _)) (pw_or1 (pt_cmpR op_gtU (pv 2) (pe_callB (call_lenU (K := K) rfl) (by rfl) T.n_len (by decide +kernel) (pa_cons (pe_fldC T.cl_Witness T.na_Witness_keepers (pv 0)) pa_nil)) (nomark _)))))
      (pss_one (ps_ret pe_bl))
      pss_nil)
      (pss_cons (ps_fldC T.cl_Witness T.na_Witness_keepers (pv 0) (pe_slice (sl_U (K := K) rfl) (pe_fldC T.cl_Witness T.na_Witness_keepers (pv 0)) po_none (po_some (pv 2))))
      (pss_cons (ps_fldC T.cl_Witness T.na_Witness_sheets (pv 0) (pe_slice (sl_U (K := K) rfl) (pe_fldC T.cl_Witness T.na_Witness_sheets (pv 0)) po_none (po_some (pe_op (op_addU (K := K) rfl) (pv 2) pe_int))))
      (pss_cons (ps_fldC T.cl_Witness T.na_Witness_doers (pv 0) pe_dnewK)
      (pss_one (ps_ret pe_bl))))))), ?_⟩
  walk_at "yn"
  cases ev <;> first | (exfalso; revert htag; simp only [evTag]; decide) | skip
  rename_i m
  obtain ⟨ws, hr, rfl⟩ := g.re
  have hkvl := kp_nums g.ok.kp
  have hsl := g.ok.sl
  have hc : s1.canB i0 (.fall m) = (decide (s1.base ≤ m) && decide (m ≤ s1.base + (s1.kept.length : Nat))) := rfl
  walk_at "yn"
  refine y_ifS ?_
  walk_at "yy"
  refine y_ite (fun c1 => ?_) (fun c1 => ?_)
  · walk_at "yy"
    exact k.1 B _ (Same.refl _) (by rw [hc, decide_eq_false (by omega)]; rfl) _ S
  walk_at "yy"
  rw [hkvl]
  refine y_ite (fun c2 => ?_) (fun c2 => ?_)
  · walk_at "yy"
    exact k.1 B _ (Same.refl _) (by rw [hc, decide_eq_false (p := m ≤ s1.base + (s1.kept.length : Nat)) (by omega), Bool.and_false]) _ S
  walk_at "yy"
  refine y_slL (sqL (S.at 2 rfl)) ?_
  rw [cut_to (by omega)]
  refine y_newM S fun nk H hnk0 S => ?_
  walk_at "yn"
  refine y_sfldK 1 S rfl (Nat.le_of_ble_eq_true rfl) rfl fun H S => ?_
  try simp only [List.set] at S
  walk_at "yn"
  refine y_slL (sqL (S.at 2 rfl)) ?_
  rw [cut_to (by omega)]
  refine y_newM S fun ns H hns0 S => ?_
  walk_at "yn"
  refine y_sfldK 2 S rfl (Nat.le_of_ble_eq_true rfl) rfl fun H S => ?_
  try simp only [List.set] at S
  walk_at "yn"
  refine y_newM S fun nd H hnd0 S => ?_
  walk_at "yn"
  refine y_sfldK 3 S rfl (Nat.le_of_ble_eq_true rfl) rfl fun H S => ?_
  try simp only [List.set] at S
  walk_at "yn"
  have hS : Sy e B H (wtL K { x with a1 := ns, a2 := nk, a3 := nd, sv := x.sv.take (m - s1.base + 1).toNat, kv := x.kv.take (m - s1.base).toNat, ds := [] } s1.base) := by
    have S2 := S.sub (L' := [_, _, _, _]) ((((List.nil_sublist _).cons_cons _).cons_cons _).cons_cons _ |>.cons_cons _)
    exact S2.ix [3, 1, 2, 0] (n := 4) rfl (by decide)
  have e1 : (m - s1.base + 1).toNat = (m - s1.base).toNat + 1 := by omega
  refine k.2 { x with a1 := ns, a2 := nk, a3 := nd, sv := x.sv.take (m - s1.base + 1).toNat, kv := x.kv.take (m - s1.base).toNat, ds := [] } B (Same.refl _) rfl (by rw [hc, decide_eq_true (p := s1.base ≤ m) (by omega), decide_eq_true (p := m ≤ s1.base + (s1.kept.length : Nat)) (by omega)]; rfl) ⟨?_, fun i v hv => ?_, ?_, rfl, fun q hq => (by cases hq)⟩ _ hS
  · show (x.sv.take _).length = (s1.kept.take _).length + 1
    rw [List.length_take, List.length_take]
    omega
  · have hv : (x.sv.take (m - s1.base + 1).toNat)[i]? = some v := hv
    have hi : i < (m - s1.base + 1).toNat := by
      have := (List.getElem?_eq_some_iff.mp hv).1
      rw [List.length_take] at this
      omega
    rw [List.getElem?_take_of_lt hi] at hv
    obtain ⟨dd, kk, e2, e3, e4⟩ := g.ok.sh i v hv
    exact ⟨dd, kk, e2, e3, e4.congr fun key => (sheet_fall (by omega) key _).symm⟩
  · show Paired _ (x.kv.take _) ((s1.kept.take _).map _)
    rw [List.map_take]
    exact pr_take _ g.ok.kp
theorem ok_can_fall (T : Tx w K mg) : Ok P w K mg base 1 "can_fall" ["witness", "rest"] (spY (φ_can K "fall")) :=
  Ok.of T.F_can_fall T.g_can_fall (fun _ _ _ _ _ _ us hl => match us, hl with | [_, _], _ => rfl) (fn_can_fall T)

def encS (p : Str × Int) : Key × V := (.inr p.1, .int p.2)
theorem put_encS {t : List (Str × Int)} {z : Str} {v : Int} (h : z ∉ t.map (·.1)) : putK (t.map encS) (.inr z) (.int v) = (t ++ [(z, v)]).map encS := by
  rw [putK_new]
  · rw [List.map_append]; rfl
  · cases q : valV (t.map encS) (.inr z) with
    | none => rfl
    | some y =>
      exfalso
      have h1 := valV_in q
      rw [List.map_map] at h1
      obtain ⟨p, hp, e⟩ := List.mem_map.mp h1
      exact h (List.mem_map.mpr ⟨p, hp, Sum.inr.inj e⟩)
theorem merge_encS : ∀ (t t0 : List (Str × Int)), ((t0 ++ t).map (·.1)).Nodup → mergeK (t0.map encS) (t.map encS) = (t0 ++ t).map encS
  | [], t0, _ => by rw [List.append_nil]; rfl
  | p :: t, t0, h => by
    have h1 : p.1 ∉ t0.map (·.1) := fun z => by
      rw [List.map_append, List.map_cons] at h
      exact (List.nodup_append.mp h).2.2 _ z _ List.mem_cons_self rfl
    have e1 : t0 ++ p :: t = (t0 ++ [p]) ++ t := by simp
    have ih := merge_encS t (t0 ++ [p]) (by rw [← e1]; exact h)
    show mergeK (putK (t0.map encS) (.inr p.1) (.int p.2)) (t.map encS) = _
    rw [put_encS h1, ih, e1]
/-- dict(rows) of texts and ints -/
theorem y_dictS {e : En} {B H : Hp} {L : Led} {Q : VK} {a : Addr} (S : Sy e B H L) {t : List (Str × Int)} (h : At rwC K B (.ref a) t) (nd : (t.map (·.1)).Nodup) (q : NewK (.dK (t.map encS)) Q H) : rDictU K [.ref a] H Q := by
  obtain ⟨xs, h1, hp⟩ := at_list_ref h
  have key : ∀ {xs : List V} {t : List (Str × Int)}, Paired (At (.tup2 .str .int) K B) xs t → ∃ ps : List Addr, xs = ps.map V.ref ∧ Paired (fun p kv => SqT K H p [kV kv.1, kv.2]) ps (t.map encS) := by
    intro xs t hp
    induction hp with
    | nil => exact ⟨[], rfl, .nil⟩
    | cons r _ ih =>
      obtain ⟨ps, e1, e2⟩ := ih
      obtain ⟨p, v1, v2, rfl, h2, h3, h4⟩ := at_tup2 r
      rw [at_str h3, at_int h4] at h2
      exact ⟨p :: ps, by rw [e1]; rfl, .cons (S.t h2) e2⟩
  obtain ⟨ps, rfl, h2⟩ := key hp
  refine .inl ⟨a, ps, t.map encS, rfl, S.l h1, h2, ?_⟩
  rw [show mergeK [] (t.map encS) = t.map encS from merge_encS t [] (by simpa using nd)]
  exact q
def φ_rise (K : PySem.W.Frag) : Ph := fun B vs L k => ∃ (x : WA) (s : AS) (U : List Str) (n : Nat) (r : Addr) (ev : Ev), vs = [.ref x.wt, .ref r] ∧ L = wtL K x s.base ∧ evTag ev = "raised" ∧ Gv K B U n x s r ev ∧ (s.opn = [] ∧ s.kept = []) ∧ CanR K U x s 0 ev k B
theorem fn_can_rise (T : Tx w K mg) (fd : FuncData) (F : FunD K "can_rise" "can_rise" (defArgs s_can_rise) (defBody s_can_rise) (defScope s_can_rise) [] [] (He.ga K "can_rise") fd) : FnOk P w K mg base CX0 1 (He.ga K "can_rise") fd ["witness", "rest"] (spY (φ_rise K)) := by
  refine fnM F sc_can_rise (fun B vs L k h => by obtain ⟨_, _, _, _, _, _, rfl, _⟩ := h; rfl) (fun cdv A outer s H vs Q E B L e hz he hr S h => ?_)
  obtain ⟨x, s1, U, n, r, ev, rfl, rfl, htag, g, ⟨ho, hk⟩, k⟩ := h
  refine ⟨_, (pss_cons (ps_asg (pv 1) (pg_unlK (K := K) (n := 2) rfl rfl (pgs_cons (pg_name (i := 2) sc_can_rise.nd rfl (.inl rfl)) (pgs_cons (pg_name (i := 3) sc_can_rise.nd rfl (.inl rfl)) pgs_nil))))
      (pss_cons (ps_fldC T.cl_Witness T.na_Witness_base (pv 0) (pv 2))
      (pss_cons (ps_fldC T.cl_Witness T.na_Witness_sheets (pv 0) (pe_lst (pa_cons (pe_callTy (call_dictU (K := K) rfl rfl) (by rfl) T.n_dict (by decide +kernel) (pa_cons (pv 3) pa_nil)) pa_nil)))
      (pss_one (ps_ret (pe_cmpR op_geU (pv 2) pe_int (nomark _))))))), ?_⟩
  walk_at "yn"
  cases ev <;> first | (exfalso; revert htag; simp only [evTag]; decide) | skip
  rename_i m rows
  obtain ⟨ws, hr, ra, rfl, hra⟩ := g.re
  obtain ⟨h0, h1, h2⟩ := g.eok.rs m rows rfl
  have hds : x.ds = [] := by
    have := g.ok.op
    rw [ho] at this
    exact List.map_eq_nil_iff.mp this.symm
  have hkv : x.kv = [] := by
    have := kp_nums g.ok.kp
    rw [hk] at this
    exact List.length_eq_zero_iff.mp this
  walk_at "yn"
  refine y_sfldK 0 S rfl (Nat.le_of_ble_eq_true rfl) rfl fun H S => ?_
  try simp only [List.set] at S
  walk_at "yn"
  refine y_dictS S hra h1 ?_
  refine y_newI S fun nd B1 H b1 hnd _ S => ?_
  walk_at "yn"
  refine y_newM S fun ns H hns0 S => ?_
  walk_at "yn"
  refine y_sfldK 1 S rfl (Nat.le_of_ble_eq_true rfl) rfl fun H S => ?_
  try simp only [List.set] at S
  walk_at "yn"
  have hS : Sy e B1 H (wtL K { x with a1 := ns, sv := [.ref nd] } m) := Sy.swapIn (q := (x.a1, .lst x.sv)) 1 S rfl
  rw [decide_eq_true (show (0 : Int) ≤ m by omega)]
  have ok1 := g.ok.up b1
  refine k.2 { x with a1 := ns, sv := [.ref nd] } B1 b1 rfl rfl ⟨by show 1 = s1.kept.length + 1; rw [hk]; rfl, fun i v hv => ?_, ok1.kp, ok1.op, ok1.ws⟩ _ hS
  have hv : [V.ref nd][i]? = some v := hv
  cases i with
  | succ i => simp at hv
  | zero =>
    cases hv
    refine ⟨nd, _, rfl, hnd, (SheetOk.start h1 h2).congr fun key => ?_⟩
    show _ = wsGet ((s1.kept.take 0).flatMap (·.2)) key (lookS rows key)
    rw [List.take_zero]
    rfl
theorem ok_can_rise (T : Tx w K mg) : Ok P w K mg base 1 "can_rise" ["witness", "rest"] (spY (φ_rise K)) :=
  Ok.of T.F_can_rise T.g_can_rise (fun _ _ _ _ _ _ us hl => match us, hl with | [_, _], _ => rfl) (fn_can_rise T)
/-! ### the table -/
inductive TabD (K : PySem.W.Frag) : Addr → Sp → Prop where
  | read : TabD K (He.ga K "can_read") (spY (φ_deed K "read"))
  | scan : TabD K (He.ga K "can_scan") (spY (φ_deed K "scan"))
  | put : TabD K (He.ga K "can_put") (spY (φ_deed K "put"))
  | drop : TabD K (He.ga K "can_drop") (spY (φ_deed K "drop"))
  | mark : TabD K (He.ga K "can_mark") (spY (φ_deed K "mark"))
  | back : TabD K (He.ga K "can_back") (spY (φ_deed K "back"))
  | keep : TabD K (He.ga K "can_keep") (spY (φ_deed K "keep"))
  | undo : TabD K (He.ga K "can_undo") (spY (φ_deed K "undo"))
theorem ok_held {k : Nat} {x : Str} {f : Addr} {ps : List Str} {sp : Sp} (O : Ok P w K mg base k x ps sp) (g : mg x = some (.ref f)) {n : Nat} (hn : k ≤ n) : Held P w K mg base n f sp := by
  obtain ⟨f', fd, h1, h2, h3, h4⟩ := O
  have e : f' = f := by rw [g] at h1; cases h1; rfl
  subst e
  exact ⟨fd, ps, h4.mono hn, h2, h3⟩
theorem held_OF_DEALINGS (T : Tx w K mg) : ∀ f sp, TabD K f sp → Held P w K mg base 2 f sp := by
  intro f sp h
  cases h with
  | read => exact ok_held (ok_can_read T) T.g_can_read (by decide)
  | scan => exact ok_held (ok_can_scan T) T.g_can_scan (by decide)
  | put => exact ok_held (ok_can_put T) T.g_can_put (by decide)
  | drop => exact ok_held (ok_can_drop T) T.g_can_drop (by decide)
  | mark => exact ok_held (ok_can_mark T) T.g_can_mark (by decide)
  | back => exact ok_held (ok_can_back T) T.g_can_back (by decide)
  | keep => exact ok_held (ok_can_keep T) T.g_can_keep (by decide)
  | undo => exact ok_held (ok_can_undo T) T.g_can_undo (by decide)

theorem dp_tup {B : Hp} {v : V} {ds : List PyData} (h : Dp K B v (.tuple ds)) : ∃ a vs, v = .ref a ∧ SqT K B a vs ∧ DpAll K B vs ds := by
  cases h with
  | tup h1 h2 => exact ⟨_, _, rfl, h1, h2⟩
theorem dps_cons {B : Hp} {vs : List V} {d : PyData} {ds : List PyData} (h : DpAll K B vs (d :: ds)) : ∃ v ws, vs = v :: ws ∧ Dp K B v d ∧ DpAll K B ws ds := by
  cases h with
  | cons h1 h2 => exact ⟨_, _, rfl, h1, h2⟩
theorem dps_nil {B : Hp} {vs : List V} (h : DpAll K B vs []) : vs = [] := by cases h; rfl
theorem dp_int {B : Hp} {v : V} {i : Int} (h : Dp K B v (.int i)) : v = .int i := by cases h; rfl
theorem dp_str {B : Hp} {v : V} {i : Str} (h : Dp K B v (.str i)) : v = .str i := by cases h; rfl
/-- an event, read -/
theorem ev_at {B : Hp} {v : V} {ev : Ev} (h : At evC K B v ev) : ∃ a ws, v = .ref a ∧ SqT K B a (.str (evTag ev) :: ws) ∧ evRest K B ws ev ∧ ws.length ≤ 4 := by
  have h : Dp K B v (evD ev) := h
  rw [evD_eq] at h
  obtain ⟨a, vs, rfl, h1, h2⟩ := dp_tup h
  obtain ⟨v0, vs, rfl, g0, h3⟩ := dps_cons h2
  clear h2
  have e0 := dp_str g0
  subst e0
  have h2 := h3
  clear h3
  refine ⟨a, vs, rfl, h1, ?_⟩
  cases ev with
  | begin d =>
    obtain ⟨v1, vs, rfl, g1, h2⟩ := dps_cons h2
    rw [dp_int g1, dps_nil h2]
    exact ⟨rfl, by simp⟩
  | undo d =>
    obtain ⟨v1, vs, rfl, g1, h2⟩ := dps_cons h2
    rw [dp_int g1, dps_nil h2]
    exact ⟨rfl, by simp⟩
  | fall d =>
    obtain ⟨v1, vs, rfl, g1, h2⟩ := dps_cons h2
    rw [dp_int g1, dps_nil h2]
    exact ⟨rfl, by simp⟩
  | drop d key =>
    obtain ⟨v1, vs, rfl, g1, h2⟩ := dps_cons h2
    obtain ⟨v2, vs, rfl, g2, h2⟩ := dps_cons h2
    rw [dp_int g1, dp_str g2, dps_nil h2]
    exact ⟨rfl, by simp⟩
  | back d m =>
    obtain ⟨v1, vs, rfl, g1, h2⟩ := dps_cons h2
    obtain ⟨v2, vs, rfl, g2, h2⟩ := dps_cons h2
    rw [dp_int g1, dp_int g2, dps_nil h2]
    exact ⟨rfl, by simp⟩
  | mark d m =>
    obtain ⟨v1, vs, rfl, g1, h2⟩ := dps_cons h2
    obtain ⟨v2, vs, rfl, g2, h2⟩ := dps_cons h2
    rw [dp_int g1, dp_int g2, dps_nil h2]
    exact ⟨rfl, by simp⟩
  | keep d m =>
    obtain ⟨v1, vs, rfl, g1, h2⟩ := dps_cons h2
    obtain ⟨v2, vs, rfl, g2, h2⟩ := dps_cons h2
    rw [dp_int g1, dp_int g2, dps_nil h2]
    exact ⟨rfl, by simp⟩
  | put d key m =>
    obtain ⟨v1, vs, rfl, g1, h2⟩ := dps_cons h2
    obtain ⟨v2, vs, rfl, g2, h2⟩ := dps_cons h2
    obtain ⟨v3, vs, rfl, g3, h2⟩ := dps_cons h2
    rw [dp_int g1, dp_str g2, dp_int g3, dps_nil h2]
    exact ⟨rfl, by simp⟩
  | read d key m =>
    obtain ⟨v1, vs, rfl, g1, h2⟩ := dps_cons h2
    obtain ⟨v2, vs, rfl, g2, h2⟩ := dps_cons h2
    obtain ⟨v3, vs, rfl, g3, h2⟩ := dps_cons h2
    rw [dp_int g1, dp_str g2, at_optI g3, dps_nil h2]
    exact ⟨rfl, by simp⟩
  | raised d rows =>
    obtain ⟨v1, vs, rfl, g1, h2⟩ := dps_cons h2
    obtain ⟨v2, vs, rfl, g2, h2⟩ := dps_cons h2
    have h5 := dps_nil h2
    subst h5
    obtain ⟨ra, _, rfl, _, _⟩ := at_list (c := .tup2 .str .int) g2
    rw [dp_int g1]
    exact ⟨⟨ra, rfl, g2⟩, by simp⟩
  | scan d lo hi rows =>
    obtain ⟨v1, vs, rfl, g1, h2⟩ := dps_cons h2
    obtain ⟨v2, vs, rfl, g2, h2⟩ := dps_cons h2
    obtain ⟨v3, vs, rfl, g3, h2⟩ := dps_cons h2
    obtain ⟨v4, vs, rfl, g4, h2⟩ := dps_cons h2
    have h5 := dps_nil h2
    subst h5
    obtain ⟨ra, _, rfl, _, _⟩ := at_list (c := .tup2 .str .int) g4
    rw [dp_int g1, dp_str g2, dp_str g3]
    exact ⟨⟨ra, rfl, g4⟩, by simp⟩
theorem evRest.up {B B' : Hp} {ws : List V} {ev : Ev} (b : Same B B') (h : evRest K B ws ev) : evRest K B' ws ev := by
  cases ev with
  | scan d lo hi rows => obtain ⟨a, e, h⟩ := h; exact ⟨a, e, h.up b⟩
  | raised d rows => obtain ⟨a, e, h⟩ := h; exact ⟨a, e, h.up b⟩
  | _ => exact h
theorem evRest.who {B : Hp} {ws : List V} {ev : Ev} (h : evRest K B ws ev) : ∃ vs, ws = .int (evWho ev) :: vs := by
  cases ev with
  | scan d lo hi rows => obtain ⟨a, e, h⟩ := h; exact ⟨_, e⟩
  | raised d rows => obtain ⟨a, e, h⟩ := h; exact ⟨_, e⟩
  | _ => exact ⟨_, h⟩
structure IsDeed (ev : Ev) : Prop where
  r : evTag ev ≠ "raised"
  f : evTag ev ≠ "fall"
  b : evTag ev ≠ "begin"
theorem IsDeed.can {ev : Ev} (h : IsDeed ev) (s : AS) (i : Nat) : s.canB i ev = match s.find (evWho ev) with | none => false | some o => s.deedB o ev := by
  cases ev with
  | raised => exact absurd rfl h.r
  | fall => exact absurd rfl h.f
  | begin => exact absurd rfl h.b
  | _ => rfl
theorem tab_at {w : World} (T : Tx w K mg) {ev : Ev} (h : IsDeed ev) : ∃ f, KDct K w (He.ga K "OF_DEALINGS") (evTag ev) (.ref f) ∧ TabD K f (spY (φ_deed K (evTag ev))) := by
  cases ev with
  | raised => exact absurd rfl h.r
  | fall => exact absurd rfl h.f
  | begin => exact absurd rfl h.b
  | read => exact ⟨_, T.k_OF_DEALINGS_read, .read⟩
  | scan => exact ⟨_, T.k_OF_DEALINGS_scan, .scan⟩
  | put => exact ⟨_, T.k_OF_DEALINGS_put, .put⟩
  | drop => exact ⟨_, T.k_OF_DEALINGS_drop, .drop⟩
  | mark => exact ⟨_, T.k_OF_DEALINGS_mark, .mark⟩
  | back => exact ⟨_, T.k_OF_DEALINGS_back, .back⟩
  | keep => exact ⟨_, T.k_OF_DEALINGS_keep, .keep⟩
  | undo => exact ⟨_, T.k_OF_DEALINGS_undo, .undo⟩
def φ_canbe (K : PySem.W.Frag) : Ph := fun B vs L k => ∃ (x : WA) (s : AS) (U : List Str) (n i : Nat) (v : V) (ev : Ev), vs = [.ref x.wt, .int (i : Nat), v] ∧ L = wtL K x s.base ∧ At evC K B v ev ∧ WtOk K B U x s ∧ AS.Ok U n s ∧ EvOk U ev ∧ U.length ≤ 100 ∧ n ≤ 900 ∧ (i = 0 → s.opn = [] ∧ s.kept = []) ∧ CanR K U x s i ev k B
theorem fn_can_be (T : Tx w K mg) (fd : FuncData) (F : FunD K "can_be" "can_be" (defArgs s_can_be) (defBody s_can_be) (defScope s_can_be) [] [] (He.ga K "can_be") fd) : FnOk P w K mg base CX0 4 (He.ga K "can_be") fd ["witness", "at", "event"] (spY (φ_canbe K)) := by
  refine fnM F sc_can_be (fun B vs L k h => by obtain ⟨_, _, _, _, _, _, _, rfl, _⟩ := h; rfl) (fun cdv A outer s H vs Q E B L e hz he hr S h => ?_)
  obtain ⟨x, s1, U, n, i0, v, ev, rfl, rfl, hev, ok, aok, eok, hul, hnl, hi0, k⟩ := h
  refine ⟨_, (pss_cons (ps_asg (pv 2) (pg_star (K := K) rfl rfl (pgs_cons (pg_name (i := 3) sc_can_be.nd rfl (.inl rfl)) (pgs_cons (pg_name (i := 4) sc_can_be.nd rfl (.inl rfl)) pgs_nil))))
      (pss_cons (ps_if (pt_cmpR (op_eqZ (K := K) rfl hr.units) (pv 3) pe_str (nomark _))
      (pss_one (ps_ret (pe_and (pe_cmpR (op_eqZ (K := K) rfl hr.units) (pv 1) pe_int (nomark _)) (pe_one (pe_callO (ok_can_rise (K := K) T) (hr.mono (by decide)) (by rfl) (pa_cons (pv 0) (pa_cons (pv 4) pa_nil)))))))
      pss_nil)
      (pss_cons (ps_if (pt_cmpR (op_eqZ (K := K) rfl hr.units) (pv 3) pe_str (nomark _))
      (pss_one (ps_ret (pe_callO (ok_can_fall (K := K) T) (hr.mono (by decide)) (by rfl) (pa_cons (pv 0) (pa_cons (pv 4) pa_nil)))))
      pss_nil)
      (pss_cons (ps_if (pt_cmpR (op_eqZ (K := K) rfl hr.units) (pv 3) pe_str (nomark _))
      (pss_one (ps_ret (pe_callO (ok_can_begin (K := K) T) hr (by rfl) (pa_cons (pv 0) (pa_cons (pv 4) pa_nil)))))
      pss_nil)
      (pss_one (ps_ret (pe_and (pe_cmpR (op_inZ (K := K) rfl hr.units) (pe_ix (ix_U (K := K) rfl (hu_of hr)) (pv 4) pe_int (fun _ _ => rfl)) (pe_fldC T.cl_Witness T.na_Witness_doers (pv 0)) (by rfl)) (pe_one (pe_callE (held_OF_DEALINGS (P := P) (w := w) (K := K) (mg := mg) (base := base) T) (hr.mono (by decide)) (pe_ix (ix_kd (K := K) (w := w) rfl rfl) (pe_glob (v := .ref (He.ga K "OF_DEALINGS")) (by rfl) T.g_OF_DEALINGS rfl) (pv 3) (fun _ _ => rfl)) (pa_cons (pv 0) (pa_cons (pv 4) pa_nil))))))))))), ?_⟩
  walk_at "yn"
  obtain ⟨ta, ws, rfl, hta, hre, hwl⟩ := ev_at hev
  walk_at "yn"
  refine y_gstar (S.t hta) (by omega) ?_
  refine y_newI S fun r B1 H b1 hr _ S => ?_
  have g : Gv K B1 U n x s1 r ev := ⟨ok.up b1, aok, eok, hul, hnl, ws, sqL hr, hre.up b1⟩
  walk_at "yn"
  refine y_ifS ?_
  walk_at "yy"
  refine y_iteS (fun h1 => ?_) (fun h1 => ?_)
  · have hcan : s1.canB i0 ev = decide (i0 = 0) := by
      cases ev <;> first | (exfalso; revert h1; simp only [evTag]; decide) | rfl
    walk_at "yy"
    refine y_iteI (fun h2 => ?_) (fun h2 => ?_)
    · have h2 : i0 = 0 := by omega
      subst h2
      walk_at "yn"
      refine y_spG (L := wtL K x s1.base) (R := []) (by rw [List.append_nil]; exact S) ⟨x, s1, U, n, r, ev, rfl, rfl, h1, g, hi0 rfl, fun B2 L2 b2 hc H T => ?_, fun x2 B2 b2 hx2 hc hok H T => ?_⟩
      · obtain ⟨-, S, -⟩ := Sy.backG (R := []) (by rw [List.append_nil]; exact S) T
        exact k.1 B2 _ (b1.trans b2) hc _ S
      · obtain ⟨-, S, -⟩ := Sy.backG (R := []) (by rw [List.append_nil]; exact S) T
        rw [List.append_nil] at S
        exact k.2 x2 B2 (b1.trans b2) hx2 hc hok _ S
    · walk_at "yn"
      exact k.1 B1 _ b1 (by rw [hcan]; exact decide_eq_false (by omega)) _ S
  walk_at "yy"
  refine y_iteS (fun h2 => ?_) (fun h2 => ?_)
  · walk_at "yy"
    refine y_spG (L := wtL K x s1.base) (R := []) (by rw [List.append_nil]; exact S) ⟨x, s1, U, n, i0, r, ev, rfl, rfl, h2, g, fun B2 L2 b2 hc H T => ?_, fun x2 B2 b2 hx2 hc hok H T => ?_⟩
    · obtain ⟨-, S, -⟩ := Sy.backG (R := []) (by rw [List.append_nil]; exact S) T
      exact k.1 B2 _ (b1.trans b2) hc _ S
    · obtain ⟨-, S, -⟩ := Sy.backG (R := []) (by rw [List.append_nil]; exact S) T
      rw [List.append_nil] at S
      exact k.2 x2 B2 (b1.trans b2) hx2 hc hok _ S
  walk_at "yy"
  refine y_iteS (fun h3 => ?_) (fun h3 => ?_)
  · walk_at "yy"
    refine y_spG (L := wtL K x s1.base) (R := []) (by rw [List.append_nil]; exact S) ⟨x, s1, U, n, i0, r, ev, rfl, rfl, h3, g, fun B2 L2 b2 hc H T => ?_, fun x2 B2 b2 hx2 hc hok H T => ?_⟩
    · obtain ⟨-, S, -⟩ := Sy.backG (R := []) (by rw [List.append_nil]; exact S) T
      exact k.1 B2 _ (b1.trans b2) hc _ S
    · obtain ⟨-, S, -⟩ := Sy.backG (R := []) (by rw [List.append_nil]; exact S) T
      rw [List.append_nil] at S
      exact k.2 x2 B2 (b1.trans b2) hx2 hc hok _ S
  have hde : IsDeed ev := ⟨h1, h2, h3⟩
  have hcan := hde.can s1 i0
  obtain ⟨wr, hwr⟩ := hre.who
  subst hwr
  walk_at "yy"
  refine y_ixL (S.l (sqL hr)) (atI_of (by decide) rfl) ?_
  walk_at "yy"
  refine z_inD (k := .inl (evWho ev)) (.inl (S.at 3 rfl)) rfl ?_
  rcases ok.find aok.nd (evWho ev) with ⟨hf, hv⟩ | ⟨p, j, hj, hpd, hf, hv⟩
  · rw [hv, show (none : Option V).isSome = false from rfl]
    walk_at "yy"
    exact k.1 B1 _ b1 (by rw [hcan, hf]) _ S
  · rw [hv, show (some (V.ref p.i)).isSome = true from rfl]
    obtain ⟨f, hf1, hf2⟩ := tab_at (w := w) T hde
    walk_at "yy"
    refine y_ixKD hf1 ⟨f, _, rfl, hf2, ?_⟩
    walk_at "yy"
    refine y_spG (L := wtL K x s1.base) (R := []) (by rw [List.append_nil]; exact S) ⟨x, s1, U, n, i0, r, ev, p, j, rfl, rfl, rfl, g, hj, hpd, fun B2 L2 b2 hc H T => ?_, fun x2 B2 b2 hx2 hc hok H T => ?_⟩
    · obtain ⟨-, S, -⟩ := Sy.backG (R := []) (by rw [List.append_nil]; exact S) T
      exact k.1 B2 _ (b1.trans b2) hc _ S
    · obtain ⟨-, S, -⟩ := Sy.backG (R := []) (by rw [List.append_nil]; exact S) T
      rw [List.append_nil] at S
      exact k.2 x2 B2 (b1.trans b2) hx2 hc hok _ S
theorem ok_can_be (T : Tx w K mg) : Ok P w K mg base 4 "can_be" ["witness", "at", "event"] (spY (φ_canbe K)) :=
  Ok.of T.F_can_be T.g_can_be (fun _ _ _ _ _ _ us hl => match us, hl with | [_, _, _], _ => rfl) (fn_can_be T)
def jV : Option Nat → V
  | none => .non
  | some i => .int (i : Nat)
def wroV (evs : List Ev) : Option Nat := judged AS.init 0 evs
theorem judged_at {s : AS} {evs : List Ev} {i : Nat} {e : Ev} (h : judged s 0 (evs.take i) = none) (he : evs[i]? = some e) (hc : ((evs.take i).foldl AS.happens s).canB i e = false) : judged s 0 evs = some i := by
  obtain ⟨hl, he⟩ := List.getElem?_eq_some_iff.mp he
  rw [← List.take_append_drop i evs, judged_append, h, List.drop_eq_getElem_cons hl, he]
  have e1 : 0 + (evs.take i).length = i := by rw [List.length_take]; omega
  rw [e1]
  show (if ((evs.take i).foldl AS.happens s).canB i e = true then _ else some i) = some i
  rw [hc]
  rfl
def φ_wrong (K : PySem.W.Frag) : Ph := fun B vs L k => ∃ (a : Addr) (evs : List Ev) (U : List Str), vs = [.ref a] ∧ L = [] ∧ At (.list evC) K B (.ref a) evs ∧ (∀ e ∈ evs, EvOk U e) ∧ U.length ≤ 100 ∧ evs.length ≤ 900 ∧ ∀ B', Same B B' → k B' (jV (wroV evs)) []
theorem fn_wrong (T : Tx w K mg) (fd : FuncData) (F : FunD K "wrong" "wrong" (defArgs s_wrong) (defBody s_wrong) (defScope s_wrong) [] [] (He.ga K "wrong") fd) : FnOk P w K mg base CX0 5 (He.ga K "wrong") fd ["history"] (spY (φ_wrong K)) := by
  refine fnM F sc_wrong (fun B vs L k h => by obtain ⟨_, _, _, rfl, _⟩ := h; rfl) (fun cdv A outer s H vs Q E B L e hz he hr S h => ?_)
  obtain ⟨a, evs, U, rfl, rfl, hat, hok, hul, hnl, k⟩ := h
  refine ⟨_, (pss_cons (ps_set (i := 1) sc_wrong.nd rfl (.inl rfl) (pe_iO0 (oki_Witness (K := K) T) (hr.mono (by decide)) (by rfl)))
      (pss_cons (ps_for PassesOwn.never rfl (pi_enumK (K := K) rfl (by rfl) T.n_enumerate (pa_cons (pv 0) pa_nil)) (pg_tupK (K := K) (n := 2) rfl rfl (pgs_cons (pg_name (i := 2) sc_wrong.nd rfl (.inl rfl)) (pgs_cons (pg_name (i := 3) sc_wrong.nd rfl (.inl rfl)) pgs_nil)))
      (pss_one (ps_if (pt_not (pt_val (pe_callO (ok_can_be (K := K) T) hr (by rfl) (pa_cons (pv 1) (pa_cons (pv 2) (pa_cons (pv 3) pa_nil))))))
      (pss_one (ps_ret (pv 2)))
      pss_nil)))
      (pss_one (ps_ret pe_non)))), ?_⟩
  walk_at "yn"
  obtain ⟨vs, hvs, hvp⟩ := at_list_ref hat
  have hvl : vs.length = evs.length := hvp.length
  walk_at "yn"
  refine y_makK S fun x dx B1 H bM hx0 S => ⟨x, dx, rfl, rfl, fun wa B2 b2 hwa wok H T => ⟨rfl, ?_⟩⟩
  replace S := (Sy.backG (L := [_]) S T).2.1
  clear T
  rw [List.append_nil] at S
  subst hwa
  have b12 := bM.trans b2
  walk_at "yn"
  refine y_enumK (S.l (up_l b12 hvs)) ?_
  refine y_forG walk_enum (fun i σ H => ∃ (B3 : Hp) (xa : WA) (s : AS), (∃ (y2 y3 : Option V), σ = [some (.ref a), some (.ref wa.wt), y2, y3]) ∧ Same B2 B3 ∧ Sy e B3 H (wtL K xa s.base) ∧ WtOk K B3 U xa s ∧ xa.wt = wa.wt ∧ AS.Ok U i s ∧ s = (evs.take i).foldl AS.happens AS.init ∧ judged AS.init 0 (evs.take i) = none) ⟨B2, wa, AS.init, ⟨_, _, rfl⟩, Same.refl _, S, wok U, rfl, AS.Ok.init U, rfl, rfl⟩ (fun i σ H hi ⟨B3, xa, s, _, b3, S, _⟩ => S.l (up_l (b12.trans b3) hvs)) ?_ ?_
  · clear S
    rintro i y σ H H' hi ⟨B3, xa, s1, ⟨y2, y3, rfl⟩, b3, S, xok, hwt, aok, hs, hj⟩ ⟨tp, x1, x2, rfl, htp, rfl, hx1, hx2⟩
    obtain rfl : V.int (i : Nat) = x1 := Option.some.inj hx1
    obtain ⟨ev, hev, hat2⟩ := pr_getL hvp hx2
    obtain ⟨b4, S⟩ := S.newI (o := .tup [.int (i : Nat), x2]) htp
    refine y_gtup (sqT upd_same) rfl ?_
    generalize upd B3 tp (.tup [.int (i : Nat), x2]) = B4 at b4 S
    have hev2 : ev ∈ evs := List.mem_of_getElem? hev
    have bb : Same B B4 := b12.trans (b3.trans b4)
    have hi0 : i = 0 → s1.opn = [] ∧ s1.kept = [] := fun e => by
      subst e
      rw [hs]
      exact ⟨rfl, rfl⟩
    walk_at "yy"
    rw [← hwt]
    refine y_spG (L := wtL K xa s1.base) (R := []) (by rw [List.append_nil]; exact S) ⟨xa, s1, U, i, i, x2, ev, rfl, rfl, hat2.up bb, xok.up b4, aok, hok ev hev2, hul, by omega, hi0, fun B5 L5 b5 hc H T => ?_, fun xb B5 b5 hxb hc hok5 H T => ?_⟩
    · obtain ⟨-, S, -⟩ := Sy.backG (R := []) (by rw [List.append_nil]; exact S) T
      walk_at "yy"
      have := k B5 (bb.trans b5)
      rw [show wroV evs = some i from judged_at hj hev (by rw [← hs]; exact hc)] at this
      exact this _ S.none
    · obtain ⟨-, S, -⟩ := Sy.backG (R := []) (by rw [List.append_nil]; exact S) T
      rw [List.append_nil] at S
      walk_at "yy"
      refine ⟨B5, xb, s1.happens ev, ⟨_, _, rfl⟩, b3.trans (b4.trans b5), S, hok5, hxb, aok.step (hok ev hev2) hc hi0, ?_, ?_⟩
      · rw [take_get hev, List.foldl_append, ← hs]
        rfl
      · rw [take_get hev]
        refine judged_snoc hj ?_
        rw [← hs, show 0 + (evs.take i).length = i by rw [List.length_take]; omega]
        exact hc
  clear S
  rintro σ H ⟨B3, xa, s1, ⟨y2, y3, rfl⟩, b3, S, xok, hwt, aok, hs, hj⟩
  rw [hvl, List.take_length] at hj
  walk_at "yn"
  have := k B3 (b12.trans b3)
  rw [show wroV evs = none from hj] at this
  exact this _ S.none
theorem ok_wrong (T : Tx w K mg) : Ok P w K mg base 5 "wrong" ["history"] (spY (φ_wrong K)) :=
  Ok.of T.F_wrong T.g_wrong (fun _ _ _ _ _ _ us hl => match us, hl with | [_], _ => rfl) (fn_wrong T)

/-! ### the law's own keeping of a history -/
structure KD where
  d : Int
  t : Addr
  a : Addr
  vs : List V
  ws : Wr
structure OD where
  d : Int
  stand : Int
  t : Addr
  a : Addr
  vs : List V
  ws : Wr
def KD.k (p : KD) : Int × Wr := (p.d, p.ws)
def OD.op (p : OD) : Op := ⟨p.d, p.stand, p.ws⟩
structure SA where
  st : Addr
  sd : Addr
  ak : Addr
  ao : Addr
  ks : List KD
  os : List OD
def odK (os : List OD) : List (Key × V) := os.map fun p => (.inl p.d, .ref p.t)
def kdV (ks : List KD) : List V := ks.map fun p => .ref p.t
def kdL (ks : List KD) : Led := ks.map fun p => (p.a, .lst p.vs)
def odL (os : List OD) : Led := os.map fun p => (p.a, .lst p.vs)
abbrev stO (x : SA) (b : Int) : HO := .dK [(.inr "base", .int b), (.inr "start", .ref x.sd), (.inr "kept", .ref x.ak), (.inr "open", .ref x.ao)]
abbrev stL (x : SA) (b : Int) : Led := (x.st, stO x b) :: (x.ak, .lst (kdV x.ks)) :: (x.ao, .dK (odK x.os)) :: (odL x.os ++ kdL x.ks)
structure StOk (K : PySem.W.Frag) (B : Hp) (x : SA) (s : AS) : Prop where
  sd : B x.sd = some (.dK (s.start.map encS))
  ks : s.kept = x.ks.map KD.k
  os : s.opn = x.os.map OD.op
  kt : ∀ p ∈ x.ks, SqT K B p.t [.int p.d, .ref p.a]
  ot : ∀ p ∈ x.os, SqT K B p.t [.int p.stand, .ref p.a]
  kw : ∀ p ∈ x.ks, Paired (At wC K B) p.vs p.ws
  ow : ∀ p ∈ x.os, Paired (At wC K B) p.vs p.ws
theorem StOk.up {B B' : Hp} {x : SA} {s : AS} (b : Same B B') (h : StOk K B x s) : StOk K B' x s :=
  ⟨b _ _ h.sd, h.ks, h.os, fun p hp => up_t b (h.kt p hp), fun p hp => up_t b (h.ot p hp), fun p hp => pr_up at_up b (h.kw p hp), fun p hp => pr_up at_up b (h.ow p hp)⟩
theorem odK_val {os : List OD} {p : OD} (nd : (os.map (·.d)).Nodup) (h : p ∈ os) : valV (odK os) (.inl p.d) = some (.ref p.t) := by
  induction os with
  | nil => cases h
  | cons q os ih =>
    rw [List.map_cons, List.nodup_cons] at nd
    show valV ((Sum.inl q.d, V.ref q.t) :: odK os) _ = _
    by_cases c : q.d = p.d
    · rw [valV_pos (show (Sum.inl q.d : Key) = .inl p.d by rw [c])]
      rcases List.mem_cons.mp h with rfl | h
      · rfl
      · exact absurd (List.mem_map.mpr ⟨p, h, c.symm⟩) nd.1
    · rw [valV_neg (show ¬ (Sum.inl q.d : Key) = .inl p.d from fun z => c (Sum.inl.inj z))]
      rcases List.mem_cons.mp h with rfl | h
      · exact absurd rfl c
      · exact ih nd.2 h
theorem odK_none {os : List OD} {d : Int} (h : ∀ p ∈ os, p.d ≠ d) : valV (odK os) (.inl d) = none := by
  induction os with
  | nil => rfl
  | cons q os ih =>
    show valV ((Sum.inl q.d, V.ref q.t) :: odK os) _ = _
    rw [valV_neg (show ¬ (Sum.inl q.d : Key) = .inl d from fun z => h q List.mem_cons_self (Sum.inl.inj z))]
    exact ih fun p hp => h p (List.mem_cons_of_mem _ hp)
theorem os_nd {B : Hp} {U : List Str} {x : SA} {s : AS} {n : Nat} (ok : StOk K B x s) (aok : AS.Ok U n s) : (x.os.map (·.d)).Nodup := by
  have := aok.nd
  rw [ok.os, List.map_map] at this
  exact this
theorem StOk.find {B : Hp} {U : List Str} {n : Nat} {x : SA} {s : AS} (h : StOk K B x s) (aok : AS.Ok U n s) (d : Int) : (s.find d = none ∧ valV (odK x.os) (.inl d) = none) ∨ ∃ (p : OD) (j : Nat), x.os[j]? = some p ∧ p.d = d ∧ s.find d = some p.op ∧ valV (odK x.os) (.inl d) = some (.ref p.t) := by
  have nd2 := os_nd h aok
  cases q : s.find d with
  | none =>
    refine .inl ⟨rfl, odK_none fun p hp e => ?_⟩
    exact AS.find_none q p.op (by rw [h.os]; exact List.mem_map.mpr ⟨p, hp, rfl⟩) e
  | some o =>
    obtain ⟨h1, h2⟩ := AS.find_mem q
    rw [h.os] at h1
    obtain ⟨p, hp, rfl⟩ := List.mem_map.mp h1
    obtain ⟨j, hj⟩ := List.mem_iff_getElem?.mp hp
    have h2 : p.d = d := h2
    exact .inr ⟨p, j, hj, h2, rfl, by rw [← h2]; exact odK_val nd2 hp⟩
theorem StOk.findP {B : Hp} {U : List Str} {n : Nat} {x : SA} {s : AS} (ok : StOk K B x s) (aok : AS.Ok U n s) {p : OD} (hp : p ∈ x.os) : s.find p.d = some p.op := by
  rcases ok.find aok p.d with ⟨h, _⟩ | ⟨q, j, hq, e, h, _⟩
  · exact absurd rfl (AS.find_none h p.op (by rw [ok.os]; exact List.mem_map.mpr ⟨p, hp, rfl⟩))
  · rw [h, nodup_inj (os_nd ok aok) (List.mem_of_getElem? hq) hp e]
theorem stL_o {x : SA} {b : Int} {p : OD} (h : p ∈ x.os) : (p.a, HO.lst p.vs) ∈ stL x b := by
  simp only [List.mem_cons, List.mem_append]
  exact .inr (.inr (.inr (.inl (List.mem_map.mpr ⟨p, h, rfl⟩))))
theorem stL_k {x : SA} {b : Int} {p : KD} (h : p ∈ x.ks) : (p.a, HO.lst p.vs) ∈ stL x b := by
  simp only [List.mem_cons, List.mem_append]
  exact .inr (.inr (.inr (.inr (List.mem_map.mpr ⟨p, h, rfl⟩))))
theorem val_encS (t : List (Str × Int)) (key : Str) : (valV (t.map encS) (.inr key)).getD .non = wV (lookS t key) := by
  unfold lookS valV
  rw [List.find?_map]
  have : ((fun kv => decide (kv.1 = Sum.inr key)) ∘ encS) = fun p => decide (p.1 = key) := by
    funext x
    show decide ((Sum.inr x.1 : Key) = Sum.inr key) = decide (x.1 = key)
    rw [decide_eq_decide]
    exact ⟨fun z => Sum.inr.inj z, fun z => by rw [z]⟩
  rw [this]
  cases t.find? fun p => decide (p.1 = key) <;> rfl
/-- what is walked: some kept ones, then one more -/
structure EL (K : PySem.W.Frag) (B : Hp) (L : Led) (es : List KD) : Prop where
  t : ∀ p ∈ es, SqT K B p.t [.int p.d, .ref p.a]
  l : ∀ p ∈ es, (p.a, HO.lst p.vs) ∈ L
  w : ∀ p ∈ es, Paired (At wC K B) p.vs p.ws
theorem EL.up {B B' : Hp} {L : Led} {es : List KD} (b : Same B B') (h : EL K B L es) : EL K B' L es := ⟨fun p hp => up_t b (h.t p hp), h.l, fun p hp => pr_up at_up b (h.w p hp)⟩
def OD.kd (p : OD) (t : Addr) : KD := ⟨p.d, t, p.a, p.vs, p.ws⟩
theorem el_of {B : Hp} {x : SA} {s : AS} (ok : StOk K B x s) {p : OD} (hp : p ∈ x.os) {t : Addr} (ht : SqT K B t [.int p.d, .ref p.a]) {ks : List KD} (hk : ∀ q ∈ ks, q ∈ x.ks) (b : Int) : EL K B (stL x b) (ks ++ [p.kd t]) := by
  refine ⟨fun q hq => ?_, fun q hq => ?_, fun q hq => ?_⟩
  · rcases List.mem_append.mp hq with hq | hq
    · exact ok.kt q (hk q hq)
    · rw [List.mem_singleton.mp hq]; exact ht
  · rcases List.mem_append.mp hq with hq | hq
    · exact stL_k (hk q hq)
    · rw [List.mem_singleton.mp hq]; exact stL_o hp
  · rcases List.mem_append.mp hq with hq | hq
    · exact ok.kw q (hk q hq)
    · rw [List.mem_singleton.mp hq]; exact ok.ow p hp
theorem es_take {es : List KD} {i : Nat} {q : KD} (h : es[i]? = some q) : (es.take (i + 1)).flatMap (·.ws) = (es.take i).flatMap (·.ws) ++ q.ws := by
  rw [take_get h, List.flatMap_append, List.flatMap_singleton]
theorem kept_ws (ks : List KD) : ks.flatMap (·.ws) = (ks.map KD.k).flatMap (·.2) := by
  rw [List.flatMap_map]
  rfl
def φ_sees (K : PySem.W.Frag) : Ph := fun B vs L k => ∃ (x : SA) (s : AS) (U : List Str) (n : Nat) (p : OD) (key : Str), vs = [.ref x.st, .int p.d, .str key] ∧ L = stL x s.base ∧ StOk K B x s ∧ AS.Ok U n s ∧ n ≤ 1000 ∧ p ∈ x.os ∧ ∀ B', Same B B' → k B' (wV (s.sees p.op key)) (stL x s.base)
theorem fn_l_sees (T : Tx w K mg) (fd : FuncData) (F : FunD K "_law_sees" "_law_sees" (defArgs s_l_sees) (defBody s_l_sees) (defScope s_l_sees) [] [] (He.ga K "_law_sees") fd) : FnOk P w K mg base CX0 1 (He.ga K "_law_sees") fd ["state", "dealing", "key"] (spY (φ_sees K)) := by
  refine fnM F sc_l_sees (fun B vs L k h => by obtain ⟨_, _, _, _, _, _, rfl, _⟩ := h; rfl) (fun cdv A outer s H vs Q E B L e hz he hr S h => ?_)
  obtain ⟨x, s1, U, n, p, key, rfl, rfl, ok, aok, hn, hp, k⟩ := h
  refine ⟨_, (pss_cons (ps_asg (pe_ix (ix_U (K := K) rfl (hu_of hr)) (pe_ix (ix_U (K := K) rfl (hu_of hr)) (pv 0) pe_str (fun _ _ => rfl)) (pv 1) (fun _ _ => rfl)) (pg_tupK (K := K) (n := 2) rfl rfl (pgs_cons (pg_name (i := 3) sc_l_sees.nd rfl (.inl rfl)) (pgs_cons (pg_name (i := 4) sc_l_sees.nd rfl (.inl rfl)) pgs_nil))))
      (pss_cons (ps_set (i := 5) sc_l_sees.nd rfl (.inl rfl) (pe_dget1 (hu_of hr) (pe_ix (ix_U (K := K) rfl (hu_of hr)) (pv 0) pe_str (fun _ _ => rfl)) (pv 2) (by exact ⟨rfl, rfl, rfl, rfl⟩)))
      (pss_cons (ps_for PassesOwn.never rfl (pi_listK (K := K) rfl (pe_op (op_addZ (K := K) rfl) (pe_slice (sl_U (K := K) rfl) (pe_ix (ix_U (K := K) rfl (hu_of hr)) (pv 0) pe_str (fun _ _ => rfl)) po_none (po_some (pe_op op_subU (pv 3) (pe_ix (ix_U (K := K) rfl (hu_of hr)) (pv 0) pe_str (fun _ _ => rfl))))) (pe_lst (pa_cons (pe_tup (pa_cons (pv 1) (pa_cons (pv 4) pa_nil))) pa_nil)))) (pg_tupK (K := K) (n := 2) rfl rfl (pgs_cons (pg_name (i := 6) sc_l_sees.nd rfl (.inl rfl)) (pgs_cons (pg_name (i := 7) sc_l_sees.nd rfl (.inl rfl)) pgs_nil)))
      (pss_one (ps_for PassesOwn.never rfl (pi_listK (K := K) rfl (pv 7)) (pg_tupK (K := K) (n := 2) rfl rfl (pgs_cons (pg_name (i := 8) sc_l_sees.nd rfl (.inl rfl)) (pgs_cons (pg_name (i := 9) sc_l_sees.nd rfl (.inl rfl)) pgs_nil)))
      (pss_one (ps_if (pt_cmpR (op_eqZ (K := K) rfl hr.units) (pv 8) (pv 2) (nomark _))
      (pss_one (ps_set (i := 5) sc_l_sees.nd rfl (.inl rfl) (pv 9)))
      pss_nil)))))
      (pss_one (ps_ret (pv 5)))))), ?_⟩
  walk_at "yn"
  have hop : p.op ∈ s1.opn := by rw [ok.os]; exact List.mem_map.mpr ⟨p, hp, rfl⟩
  obtain ⟨st0, st1⟩ := aok.st _ hop
  have st0 : s1.base ≤ p.stand := st0
  have st1 : p.stand ≤ s1.base + (s1.kept.length : Nat) := st1
  have hkl := aok.kl
  have hkx : x.ks.length = s1.kept.length := by rw [ok.ks, List.length_map]
  have hpt := ok.ot p hp
  walk_at "yn"
  refine y_ixD (k := .inl p.d) (.inl (S.at 2 rfl)) rfl (odK_val (os_nd ok aok) hp) ?_
  walk_at "yn"
  refine ⟨x.sd, rfl, .inl ⟨_, S.rd ok.sd⟩, ?_⟩
  walk_at "yn"
  refine ⟨_, .inl ⟨_, .inr key, S.rd ok.sd, rfl, rfl⟩, ?_⟩
  rw [val_encS]
  walk_at "yn"
  refine y_slL (sqL (S.at 1 rfl)) ?_
  rw [cut_to (by omega)]
  refine y_newI S fun sl B1 H b1 hsl _ S => ?_
  walk_at "yn"
  refine y_newI S fun t B2 H b2 ht _ S => ?_
  walk_at "yn"
  refine y_newI S fun tl B3 H b3 htl _ S => ?_
  walk_at "yn"
  have hkv : (kdV x.ks).length = s1.kept.length := by unfold kdV; rw [List.length_map]; exact hkx
  refine z_catS (S.l (sqL (up_o (b2.trans b3) hsl))) (S.l (sqL htl)) (lenOk (by rw [List.length_take]; simp; omega)) ?_
  refine y_newI S fun cl B4 H b4 hcl _ S => ?_
  have bb : Same B B4 := b1.trans (b2.trans (b3.trans b4))
  have hel := (el_of (ok.up bb) hp (sqT (up_o (b3.trans b4) ht)) (ks := x.ks.take (p.stand - s1.base).toNat) (fun q hq => List.mem_of_mem_take hq) s1.base)
  have hcv : (kdV x.ks).take (p.stand - s1.base).toNat ++ [V.ref t] = kdV (x.ks.take (p.stand - s1.base).toNat ++ [p.kd t]) := by
    unfold kdV
    rw [List.map_append, List.map_take]
    rfl
  rw [hcv] at hcl
  have hsum : s1.sees p.op key = wsGet ((x.ks.take (p.stand - s1.base).toNat ++ [p.kd t]).flatMap (·.ws)) key (lookS s1.start key) := by
    rw [List.flatMap_append, wsGet_append, kept_ws (x.ks.take _), List.map_take, ← ok.ks, List.flatMap_singleton]
    rfl
  generalize hes : x.ks.take (p.stand - s1.base).toNat ++ [p.kd t] = es at hcl hel hsum
  rw [hsum] at k
  clear hsum hcv hes
  generalize lookS s1.start key = w0 at k ⊢
  walk_at "yn"
  refine y_forL (xs := kdV es) (fun i σ H => ∃ (B5 : Hp), (∃ (y3 y4 y6 y7 y8 y9 : Option V), σ = [some (.ref x.st), some (.int p.d), some (.str key), y3, y4, some (wV (wsGet ((es.take i).flatMap (·.ws)) key w0)), y6, y7, y8, y9]) ∧ Same B4 B5 ∧ Sy e B5 H (stL x s1.base)) ⟨B4, ⟨_, _, _, _, _, _, rfl⟩, Same.refl _, S⟩ (fun i σ H hi ⟨B5, _, b5, S⟩ => S.l (sqL (up_o b5 hcl))) ?_ ?_
  · clear S
    rintro i y σ H hy ⟨B5, ⟨y3, y4, y6, y7, y8, y9, rfl⟩, b5, S⟩
    unfold kdV at hy
    rw [List.getElem?_map] at hy
    obtain ⟨q, hq, rfl⟩ := Option.map_eq_some_iff.mp hy
    have hqm := List.mem_of_getElem? hq
    have el5 := hel.up b5
    have hqt := el5.t q hqm
    have hql := hel.l q hqm
    have hqw := el5.w q hqm
    walk_at "yn"
    refine y_forL (xs := q.vs) (fun j σ H => (∃ (y3 y4 y6 y7 y8 y9 : Option V), σ = [some (.ref x.st), some (.int p.d), some (.str key), y3, y4, some (wV (wsGet (q.ws.take j) key (wsGet ((es.take i).flatMap (·.ws)) key w0))), y6, y7, y8, y9]) ∧ Sy e B5 H (stL x s1.base)) ⟨⟨_, _, _, _, _, _, rfl⟩, S⟩ (fun j σ H hj ⟨_, S⟩ => sqL (S.ledM hql)) ?_ ?_
    · clear S
      rintro j z σ H hz ⟨⟨y3, y4, y6, y7, y8, y9, rfl⟩, S⟩
      obtain ⟨u, hu, hzu⟩ := pr_getL hqw hz
      obtain ⟨tz, rfl, htz⟩ := wAt hzu
      walk_at "yn"
      refine y_ifS ?_
      walk_at "yy"
      have est := wsGet_step hu key (wsGet ((es.take i).flatMap (·.ws)) key w0)
      refine y_iteS (fun c => ?_) (fun c => ?_)
      · walk_at "yn"
        rw [est, if_pos c.symm]
        exact ⟨⟨_, _, _, _, _, _, rfl⟩, S⟩
      · walk_at "yn"
        rw [est, if_neg fun z => c z.symm]
        exact ⟨⟨_, _, _, _, _, _, rfl⟩, S⟩
    clear S
    rintro σ H ⟨⟨y3, y4, y6, y7, y8, y9, rfl⟩, S⟩
    have hql2 : q.vs.length = q.ws.length := hqw.length
    rw [hql2, List.take_length, ← wsGet_append, ← es_take hq]
    exact ⟨B5, ⟨_, _, _, _, _, _, rfl⟩, b5, S⟩
  clear S
  rintro σ H ⟨B5, ⟨y3, y4, y6, y7, y8, y9, rfl⟩, b5, S⟩
  have hvl : (kdV es).length = es.length := by unfold kdV; rw [List.length_map]
  rw [hvl, List.take_length]
  walk_at "yn"
  exact k B5 (bb.trans b5) _ S
theorem ok_l_sees (T : Tx w K mg) : Ok P w K mg base 1 "_law_sees" ["state", "dealing", "key"] (spY (φ_sees K)) :=
  Ok.of T.F_l_sees T.g_l_sees (fun _ _ _ _ _ _ us hl => match us, hl with | [_, _, _], _ => rfl) (fn_l_sees T)

theorem put_ks {kvs : List (Key × V)} {ks : List Str} {z : Str} {v : V} (h : kvs.map (·.1) = ks.map Sum.inr) (nd : ks.Nodup) : ∃ ks' : List Str, (putK kvs (.inr z) v).map (·.1) = ks'.map Sum.inr ∧ ks'.Nodup ∧ ∀ y, y ∈ ks' ↔ y ∈ ks ∨ y = z := by
  cases q : valV kvs (.inr z) with
  | none =>
    have hz : z ∉ ks := fun hm => by
      obtain ⟨v0, hv0⟩ := valV_some (kvs := kvs) (k := .inr z) (by rw [h]; exact List.mem_map.mpr ⟨z, hm, rfl⟩)
      rw [q] at hv0; cases hv0
    refine ⟨ks ++ [z], by rw [putK_new _ q, List.map_append, List.map_append, h]; rfl, ?_, fun y => by rw [List.mem_append, List.mem_singleton]⟩
    refine List.nodup_append.mpr ⟨nd, by simp, fun a ha b hb hab => ?_⟩
    rw [List.mem_singleton] at hb
    rw [hab, hb] at ha
    exact hz ha
  | some v0 =>
    have hz : z ∈ ks := by
      have := valV_in q
      rw [h] at this
      obtain ⟨y, hy, e⟩ := List.mem_map.mp this
      rw [← Sum.inr.inj e]
      exact hy
    refine ⟨ks, ?_, nd, fun y => ⟨.inl, fun hy => hy.elim id fun e => by rw [e]; exact hz⟩⟩
    rw [← h]
    have hany : (kvs.any fun kv => decide (kv.1 = Sum.inr z)) = true := by
      obtain ⟨p, hp, e⟩ := List.mem_map.mp (valV_in q)
      exact List.any_eq_true.mpr ⟨p, hp, decide_eq_true e⟩
    unfold putK
    rw [if_pos hany, List.map_map]
    refine List.map_congr_left fun kv _ => ?_
    show (if kv.1 = Sum.inr z then (kv.1, v) else kv).1 = kv.1
    split <;> rfl
structure IsKeys (l : List Str) (m : List Str) : Prop where
  st : l.Pairwise fun x y => sg x < sg y
  mem : ∀ z, z ∈ l ↔ z ∈ m
def φ_keysof (K : PySem.W.Frag) : Ph := fun B vs L k => ∃ (x : SA) (s : AS) (U : List Str) (n : Nat) (p : OD), vs = [.ref x.st, .int p.d] ∧ L = stL x s.base ∧ StOk K B x s ∧ AS.Ok U n s ∧ n ≤ 1000 ∧ U.length ≤ 100 ∧ p ∈ x.os ∧ ∀ a zs B', Same B B' → At cS K B' (.ref a) zs → IsKeys zs (s.keys p.op) → zs.length ≤ 100 → k B' (.ref a) (stL x s.base)
theorem fn_l_keys_of (T : Tx w K mg) (fd : FuncData) (F : FunD K "_law_keys_of" "_law_keys_of" (defArgs s_l_keys_of) (defBody s_l_keys_of) (defScope s_l_keys_of) [] [] (He.ga K "_law_keys_of") fd) : FnOk P w K mg base CX0 1 (He.ga K "_law_keys_of") fd ["state", "dealing"] (spY (φ_keysof K)) := by
  refine fnM F sc_l_keys_of (fun B vs L k h => by obtain ⟨_, _, _, _, _, rfl, _⟩ := h; rfl) (fun cdv A outer s H vs Q E B L e hz he hr S h => ?_)
  obtain ⟨x, s1, U, n, p, rfl, rfl, ok, aok, hn, hul, hp, k⟩ := h
  refine ⟨_, (pss_cons (ps_set (i := 2) sc_l_keys_of.nd rfl (.inl rfl) (pe_callTy (call_dictU (K := K) rfl rfl) (by rfl) T.n_dict (by decide +kernel) (pa_cons (pe_ix (ix_U (K := K) rfl (hu_of hr)) (pv 0) pe_str (fun _ _ => rfl)) pa_nil)))
      (pss_cons (ps_for PassesOwn.never rfl (pi_listK (K := K) rfl (pe_op (op_addZ (K := K) rfl) (pe_ix (ix_U (K := K) rfl (hu_of hr)) (pv 0) pe_str (fun _ _ => rfl)) (pe_lst (pa_cons (pe_tup (pa_cons (pv 1) (pa_cons (pe_ix (ix_U (K := K) rfl (hu_of hr)) (pe_ix (ix_U (K := K) rfl (hu_of hr)) (pe_ix (ix_U (K := K) rfl (hu_of hr)) (pv 0) pe_str (fun _ _ => rfl)) (pv 1) (fun _ _ => rfl)) pe_int (fun _ _ => rfl)) pa_nil))) pa_nil)))) (pg_tupK (K := K) (n := 2) rfl rfl (pgs_cons (pg_name (i := 3) sc_l_keys_of.nd rfl (.inl rfl)) (pgs_cons (pg_name (i := 4) sc_l_keys_of.nd rfl (.inl rfl)) pgs_nil)))
      (pss_one (ps_for PassesOwn.never rfl (pi_listK (K := K) rfl (pv 4)) (pg_tupK (K := K) (n := 2) rfl rfl (pgs_cons (pg_name (i := 5) sc_l_keys_of.nd rfl (.inl rfl)) (pgs_cons (pg_name (i := 6) sc_l_keys_of.nd rfl (.inl rfl)) pgs_nil)))
      (pss_one (ps_asg pe_bl (pg_sub (pv 2) (pv 5) (set_U (hu_of hr))))))))
      (pss_one (ps_ret (pe_callB (call_sortedW (P := P) (w := w) (K := K) rfl rfl rfl rfl hr.units) (by rfl) T.n_sorted (by decide +kernel) (pa_cons (pv 2) pa_nil)))))), ?_⟩
  walk_at "yn"
  have hop : p.op ∈ s1.opn := by rw [ok.os]; exact List.mem_map.mpr ⟨p, hp, rfl⟩
  have hkl := aok.kl
  have hkx : x.ks.length = s1.kept.length := by rw [ok.ks, List.length_map]
  have hpt := ok.ot p hp
  walk_at "yn"
  refine y_dictD (S.rd ok.sd) ?_
  refine y_newM S fun f H hf0 S => ?_
  walk_at "yn"
  refine y_ixD (k := .inl p.d) (.inl (S.at 3 rfl)) rfl (odK_val (os_nd ok aok) hp) ?_
  walk_at "yn"
  refine y_newI S fun t B2 H b2 ht _ S => ?_
  walk_at "yn"
  refine y_newI S fun tl B3 H b3 htl _ S => ?_
  walk_at "yn"
  have hkv : (kdV x.ks).length = s1.kept.length := by unfold kdV; rw [List.length_map]; exact hkx
  refine z_catS (sqL (S.at 2 rfl)) (S.l (sqL htl)) (lenOk (by simp; omega)) ?_
  refine y_newI S fun cl B4 H b4 hcl _ S => ?_
  have bb : Same B B4 := b2.trans (b3.trans b4)
  have hel := (el_of (ok.up bb) hp (sqT (up_o (b3.trans b4) ht)) (ks := x.ks) (fun q hq => hq) s1.base)
  have hcv : kdV x.ks ++ [V.ref t] = kdV (x.ks ++ [p.kd t]) := by
    unfold kdV
    rw [List.map_append]
    rfl
  rw [hcv] at hcl
  have hkeys : ∀ z, z ∈ s1.keys p.op ↔ z ∈ s1.start.map (·.1) ∨ z ∈ ((x.ks ++ [p.kd t]).flatMap (·.ws)).map (·.1) := fun z => by
    unfold AS.keys
    rw [List.flatMap_append, kept_ws x.ks, ← ok.ks, List.flatMap_singleton, List.map_append, List.append_assoc, List.mem_append]
    exact Iff.rfl
  have hku : ∀ z ∈ s1.keys p.op, z ∈ U := fun z hz => by
    unfold AS.keys at hz
    simp only [List.mem_append] at hz
    rcases hz with (hz | hz) | hz
    · obtain ⟨q, hq, rfl⟩ := List.mem_map.mp hz
      exact aok.su q hq
    · obtain ⟨q, hq, rfl⟩ := List.mem_map.mp hz
      obtain ⟨r, hr, hq⟩ := List.mem_flatMap.mp hq
      exact aok.ku r hr q hq
    · obtain ⟨q, hq, rfl⟩ := List.mem_map.mp hz
      exact aok.wu p.op hop q hq
  generalize hes : x.ks ++ [p.kd t] = es at hcl hel hkeys
  clear hcv hes
  have hsub : ∀ (i : Nat) (ks : List Str), ks.Nodup → (∀ z, z ∈ ks ↔ z ∈ s1.start.map (·.1) ∨ z ∈ ((es.take i).flatMap (·.ws)).map (·.1)) → ks.length ≤ 100 := fun i ks nd h => Nat.le_trans (nodup_le nd fun z hz => hku z ((hkeys z).mpr (((h z).mp hz).imp id fun hz => by
    obtain ⟨q, hq, e⟩ := List.mem_map.mp hz
    obtain ⟨r, hr, hq⟩ := List.mem_flatMap.mp hq
    exact List.mem_map.mpr ⟨q, List.mem_flatMap.mpr ⟨r, List.mem_of_mem_take hr, hq⟩, e⟩))) hul
  walk_at "yn"
  refine y_forL (xs := kdV es) (fun i σ H => ∃ (kvs : List (Key × V)) (ks : List Str), (∃ (y3 y4 y5 y6 : Option V), σ = [some (.ref x.st), some (.int p.d), some (.ref f), y3, y4, y5, y6]) ∧ Sy e B4 H ((f, .dK kvs) :: stL x s1.base) ∧ kvs.map (·.1) = ks.map Sum.inr ∧ ks.Nodup ∧ ∀ z, z ∈ ks ↔ z ∈ s1.start.map (·.1) ∨ z ∈ ((es.take i).flatMap (·.ws)).map (·.1)) ⟨_, s1.start.map (·.1), ⟨_, _, _, _, rfl⟩, S, by rw [List.map_map, List.map_map]; rfl, aok.sk, fun z => by simp⟩ (fun i σ H hi ⟨_, _, _, S, _⟩ => S.l (sqL hcl)) ?_ ?_
  · clear S
    rintro i y σ H hy ⟨kvs, ks, ⟨y3, y4, y5, y6, rfl⟩, S, hk1, hk2, hk3⟩
    have hy0 : i < es.length := by
      have := (List.getElem?_eq_some_iff.mp hy).1
      unfold kdV at this
      rw [List.length_map] at this
      exact this
    unfold kdV at hy
    rw [List.getElem?_map] at hy
    obtain ⟨q, hq, rfl⟩ := Option.map_eq_some_iff.mp hy
    have hqm := List.mem_of_getElem? hq
    have hqt := hel.t q hqm
    have hql := hel.l q hqm
    have hqw := hel.w q hqm
    walk_at "yn"
    refine y_forL (xs := q.vs) (fun j σ H => ∃ (kvs : List (Key × V)) (ks : List Str), (∃ (y3 y4 y5 y6 : Option V), σ = [some (.ref x.st), some (.int p.d), some (.ref f), y3, y4, y5, y6]) ∧ Sy e B4 H ((f, .dK kvs) :: stL x s1.base) ∧ kvs.map (·.1) = ks.map Sum.inr ∧ ks.Nodup ∧ ∀ z, z ∈ ks ↔ (z ∈ s1.start.map (·.1) ∨ z ∈ ((es.take i).flatMap (·.ws)).map (·.1)) ∨ z ∈ (q.ws.take j).map (·.1)) ⟨kvs, ks, ⟨_, _, _, _, rfl⟩, S, hk1, hk2, fun z => by rw [hk3]; simp⟩ (fun j σ H hj ⟨_, _, _, S, _⟩ => sqL (S.ledM1 hql)) ?_ ?_
    · clear S hk1 hk2 hk3
      clear kvs ks
      rintro j z σ H hz ⟨kvs, ks, ⟨y3, y4, y5, y6, rfl⟩, S, hk1, hk2, hk3⟩
      obtain ⟨u, hu, hzu⟩ := pr_getL hqw hz
      obtain ⟨tz, rfl, htz⟩ := wAt hzu
      have hlen : ks.length ≤ 100 := Nat.le_trans (nodup_le hk2 fun z hz => hku z ((hkeys z).mpr (by
        rcases (hk3 z).mp hz with (h | h) | h
        · exact .inl h
        · obtain ⟨q', hq', e⟩ := List.mem_map.mp h
          obtain ⟨r, hr, hq'⟩ := List.mem_flatMap.mp hq'
          exact .inr (List.mem_map.mpr ⟨q', List.mem_flatMap.mpr ⟨r, List.mem_of_mem_take hr, hq'⟩, e⟩)
        · obtain ⟨q', hq', e⟩ := List.mem_map.mp h
          exact .inr (List.mem_map.mpr ⟨q', List.mem_flatMap.mpr ⟨q, hqm, List.mem_of_mem_take hq'⟩, e⟩)))) hul
      have hlen2 : kvs.length = ks.length := by
        have := congrArg List.length hk1
        rw [List.length_map, List.length_map] at this
        exact this
      walk_at "yn"
      refine y_setD (kk := .inr u.1) 0 S rfl rfl (lenLt (by omega)) fun H S => ?_
      try simp only [List.set] at S
      obtain ⟨ks2, g1, g2, g3⟩ := put_ks (z := u.1) (v := .bl true) hk1 hk2
      refine ⟨_, ks2, ⟨_, _, _, _, rfl⟩, S, g1, g2, fun z => ?_⟩
      rw [g3, hk3, take_get hu, List.map_append, List.mem_append (s := (q.ws.take j).map _), List.map_singleton, List.mem_singleton, or_assoc (a := z ∈ _ ∨ z ∈ _)]
    clear S hk1 hk2 hk3
    clear kvs ks
    rintro σ H ⟨kvs, ks, ⟨y3, y4, y5, y6, rfl⟩, S, hk1, hk2, hk3⟩
    have hql2 : q.vs.length = q.ws.length := hqw.length
    rw [hql2, List.take_length] at hk3
    refine ⟨kvs, ks, ⟨_, _, _, _, rfl⟩, S, hk1, hk2, fun z => ?_⟩
    rw [hk3, es_take hq, List.map_append, List.mem_append, or_assoc]
  clear S
  rintro σ H ⟨kvs, ks, ⟨y3, y4, y5, y6, rfl⟩, S, hk1, hk2, hk3⟩
  have hlen := hsub _ ks hk2 hk3
  have hvl : (kdV es).length = es.length := by unfold kdV; rw [List.length_map]
  rw [hvl, List.take_length] at hk3
  walk_at "yn"
  refine y_sortDS (.inl (S.at 0 rfl)) hk1 ?_
  replace S := S.tail
  refine y_newI S fun sl B5 H b5 hsl _ S => ?_
  have hpm := List.mergeSort_perm ks strLe
  exact k sl (ks.mergeSort strLe) B5 (bb.trans b5) (.list (sqL hsl) (pr_strs _)) ⟨sorted_lt (hpm.nodup_iff.mpr hk2) (List.pairwise_mergeSort strLe_trans strLe_total _), fun z => by rw [hpm.mem_iff, hk3, hkeys]⟩ (by rw [hpm.length_eq]; exact hlen) _ S
theorem ok_l_keys_of (T : Tx w K mg) : Ok P w K mg base 1 "_law_keys_of" ["state", "dealing"] (spY (φ_keysof K)) :=
  Ok.of T.F_l_keys_of T.g_l_keys_of (fun _ _ _ _ _ _ us hl => match us, hl with | [_, _], _ => rfl) (fn_l_keys_of T)
def φ_scanned (K : PySem.W.Frag) : Ph := fun B vs L k => ∃ (x : SA) (s : AS) (U : List Str) (n : Nat) (p : OD) (lo hi : Str), vs = [.ref x.st, .int p.d, .str lo, .str hi] ∧ L = stL x s.base ∧ StOk K B x s ∧ AS.Ok U n s ∧ n ≤ 1000 ∧ U.length ≤ 100 ∧ p ∈ x.os ∧ ∀ a B', Same B B' → At rwC K B' (.ref a) (s.scanned p.op lo hi) → (∃ vs, B' a = some (.lst vs)) → k B' (.ref a) (stL x s.base)
theorem fn_l_scanned (T : Tx w K mg) (fd : FuncData) (F : FunD K "_law_scanned" "_law_scanned" (defArgs s_l_scanned) (defBody s_l_scanned) (defScope s_l_scanned) [] [] (He.ga K "_law_scanned") fd) : FnOk P w K mg base CX0 2 (He.ga K "_law_scanned") fd ["state", "dealing", "low", "high"] (spY (φ_scanned K)) := by
  refine fnM F sc_l_scanned (fun B vs L k h => by obtain ⟨_, _, _, _, _, _, _, rfl, _⟩ := h; rfl) (fun cdv A outer s H vs Q E B L e hz he hr S h => ?_)
  obtain ⟨x, s1, U, n, p, lo, hi, rfl, rfl, ok, aok, hn, hul, hp, k⟩ := h
  refine ⟨_, (pss_cons (ps_set (i := 4) sc_l_scanned.nd rfl (.inl rfl) (pe_lst pa_nil))
      (pss_cons (ps_for PassesOwn.never rfl (pi_listK (K := K) rfl (pe_callO (ok_l_keys_of (K := K) T) hr (by rfl) (pa_cons (pv 0) (pa_cons (pv 1) pa_nil)))) (pg_name (i := 5) sc_l_scanned.nd rfl (.inl rfl))
      (pss_cons (ps_set (i := 6) sc_l_scanned.nd rfl (.inl rfl) (pe_callO (ok_l_sees (K := K) T) hr (by rfl) (pa_cons (pv 0) (pa_cons (pv 1) (pa_cons (pv 5) pa_nil)))))
      (pss_one (ps_if (PW.pt (pw_and (pt_cmpR op_isnotU (pv 6) pe_non (nomark _)) (pw_and (pt_not (pt_cmpR op_ltU (pv 5) (pv 2) (nomark _))) (pw_and1 (pt_cmpR op_ltU (pv 5) (pv 3) (nomark _))))))
      (pss_one (ps_expr (pe_bmK (K := K) (id := "list.append") rfl (pe_bm PySem.F.plainAttrs_list PySem.F.slot_list_append PySem.F.type_list_append mt_append (pv 4) (pa_cons (pe_tup (pa_cons (pv 5) (pa_cons (pv 6) pa_nil))) pa_nil)))))
      pss_nil))))
      (pss_one (ps_ret (pv 4))))), ?_⟩
  walk_at "yn"
  refine y_newM S fun f H hf0 S => ?_
  walk_at "yn"
  replace S := S.perm (List.perm_append_comm (l₁ := [_]) (l₂ := stL x s1.base))
  refine y_spG (L := stL x s1.base) S ⟨x, s1, U, n, p, rfl, rfl, ok, aok, hn, hul, hp, fun za zs B1 b1 hza hik hzl H T => ?_⟩
  obtain ⟨-, S, -⟩ := S.backG T
  clear T
  replace S := S.perm (List.perm_append_comm (l₂ := [_]) (l₁ := stL x s1.base))
  obtain ⟨zv, hzv, hzp⟩ := at_list_ref hza
  walk_at "yn"
  have hspec : zs.filterMap (fun key => if (!decide (sg key < sg lo) && decide (sg key < sg hi)) = true then (s1.sees p.op key).map fun w => (key, w) else none) = s1.scanned p.op lo hi :=
    IsRows.uniq (rows_of hik.st fun key w0 hw => (hik.mem key).mpr (AS.sees_key hw)) (s1.scanned_is p.op lo hi)
  refine y_forC (c := .str) (fun i σ H => ∃ (B2 : Hp) (vs : List V), (∃ (y5 y6 : Option V), σ = [some (.ref x.st), some (.int p.d), some (.str lo), some (.str hi), some (.ref f), y5, y6]) ∧ Same B1 B2 ∧ Sy e B2 H ((f, .lst vs) :: stL x s1.base) ∧ vs.length ≤ i ∧ Paired (At (.tup2 .str .int) K B2) vs ((zs.take i).filterMap (fun key => if (!decide (sg key < sg lo) && decide (sg key < sg hi)) = true then (s1.sees p.op key).map fun w => (key, w) else none))) hza ⟨B1, [], ⟨_, _, rfl⟩, Same.refl _, S, Nat.le_refl _, .nil⟩ (fun i σ H hi2 ⟨B2, vs, _, b2, S, _⟩ => ⟨B2, _, b2, S⟩) ?_ ?_
  · clear S
    rintro i y z σ H hz hyz ⟨B2, vs, ⟨y5, y6, rfl⟩, b2, S, hl, hpr⟩
    have hi3 : i < zs.length := (List.getElem?_eq_some_iff.mp hz).1
    have e1 := at_str hyz
    subst e1
    have hstep : (zs.take (i + 1)).filterMap (fun key => if (!decide (sg key < sg lo) && decide (sg key < sg hi)) = true then (s1.sees p.op key).map fun w => (key, w) else none) = (zs.take i).filterMap (fun key => if (!decide (sg key < sg lo) && decide (sg key < sg hi)) = true then (s1.sees p.op key).map fun w => (key, w) else none) ++ (if (!decide (sg z < sg lo) && decide (sg z < sg hi)) = true then (s1.sees p.op z).map fun w => (z, w) else none).toList := by
      rw [take_get hz, List.filterMap_append]
      rw [List.filterMap_cons, List.filterMap_nil]
      generalize (if (!decide (sg z < sg lo) && decide (sg z < sg hi)) = true then (s1.sees p.op z).map fun w => (z, w) else none) = q
      cases q <;> rfl
    walk_at "yn"
    replace S := S.perm (List.perm_append_comm (l₁ := [_]) (l₂ := stL x s1.base))
    refine y_spG (L := stL x s1.base) S ⟨x, s1, U, n, p, z, rfl, rfl, ok.up (b1.trans b2), aok, hn, hp, fun B3 b3 H T => ?_⟩
    obtain ⟨-, S, -⟩ := S.backG T
    clear T
    replace S : Sy _ _ _ ((f, .lst vs) :: stL x s1.base) := S.perm (List.perm_append_comm (l₂ := [_]) (l₁ := stL x s1.base))
    walk_at "yn"
    refine y_ifS ?_
    rw [hstep]
    cases hse : s1.sees p.op z with
    | none =>
      have e0 : (if (!decide (sg z < sg lo) && decide (sg z < sg hi)) = true then (none : Option Int).map (fun w => (z, w)) else none).toList = [] := by split <;> rfl
      rw [e0, List.append_nil]
      rw [show wV none = .non from rfl]
      walk_at "yy"
      exact ⟨B3, vs, ⟨_, _, rfl⟩, b2.trans b3, S, by omega, pr_up at_up b3 hpr⟩
    | some w1 =>
      rw [show wV (some w1) = .int w1 from rfl]
      walk_at "yy"
      rw [show decide (z.cps.toList < lo.cps.toList) = decide (sg z < sg lo) from rfl]
      by_cases c1 : sg z < sg lo
      · rw [decide_eq_true c1]
        walk_at "yy"
        refine ⟨B3, vs, ⟨_, _, rfl⟩, b2.trans b3, S, by omega, ?_⟩
        simpa using pr_up at_up b3 hpr
      rw [decide_eq_false c1]
      walk_at "yy"
      rw [show decide (z.cps.toList < hi.cps.toList) = decide (sg z < sg hi) from rfl]
      by_cases c2 : sg z < sg hi
      · rw [decide_eq_true c2]
        walk_at "yy"
        refine y_newI S fun t B4 H b4 ht _ S => ?_
        walk_at "yn"
        refine y_app 0 S rfl (lenLt (by omega)) fun H S => ?_
        try simp only [List.set] at S
        walk_at "yn"
        refine ⟨B4, vs ++ [.ref t], ⟨_, _, rfl⟩, b2.trans (b3.trans b4), S, by rw [List.length_append, List.length_singleton]; omega, ?_⟩
        exact pr_app (pr_up at_up (b3.trans b4) hpr) (.cons (.tup2 (sqT ht) .str .int) .nil)
      · rw [decide_eq_false c2]
        walk_at "yy"
        refine ⟨B3, vs, ⟨_, _, rfl⟩, b2.trans b3, S, by omega, ?_⟩
        simpa using pr_up at_up b3 hpr
  clear S
  rintro σ H ⟨B2, vs, ⟨y5, y6, rfl⟩, b2, S, hl, hpr⟩
  rw [List.take_length, hspec] at hpr
  obtain ⟨B3, b3, hf3, S⟩ := S.frz 0 rfl hf0
  try simp only [List.eraseIdx] at S
  walk_at "yn"
  exact k f B3 (b1.trans (b2.trans b3)) (.list (sqL hf3) (pr_up at_up b3 hpr)) ⟨_, hf3⟩ _ S
theorem ok_l_scanned (T : Tx w K mg) : Ok P w K mg base 2 "_law_scanned" ["state", "dealing", "low", "high"] (spY (φ_scanned K)) :=
  Ok.of T.F_l_scanned T.g_l_scanned (fun _ _ _ _ _ _ us hl => match us, hl with | [_, _, _, _], _ => rfl) (fn_l_scanned T)

structure WL where
  a : Addr
  vs : List V
  ws : Wr
def KD.wl (p : KD) : WL := ⟨p.a, p.vs, p.ws⟩
def OD.wl (p : OD) : WL := ⟨p.a, p.vs, p.ws⟩
def wlV (l : List WL) : List V := l.map fun q => .ref q.a
def othW (ks : List KD) (os : List OD) (d : Int) : List WL := ks.map KD.wl ++ (os.filter fun q => !decide (q.d = d)).map OD.wl
theorem oth_step {ks : List KD} {os : List OD} {d : Int} {i : Nat} {q : OD} (h : os[i]? = some q) : othW ks (os.take (i + 1)) d = othW ks (os.take i) d ++ (if q.d = d then [] else [q.wl]) := by
  unfold othW
  rw [take_get h, List.filter_append, List.map_append, List.append_assoc]
  congr 2
  by_cases c : q.d = d
  · rw [if_pos c]; simp [c]
  · rw [if_neg c]; simp [c]
theorem free_eqL {B : Hp} {x : SA} {s : AS} (ok : StOk K B x s) (p : OD) (key : Str) : s.free p.op key = !((othW (x.ks.drop (p.stand - s.base).toNat) x.os p.d).any fun q => hasK q.ws key) := by
  unfold AS.free othW
  rw [List.any_append, Bool.not_or, ok.ks, ok.os, List.any_map, ← List.map_drop, List.any_map, List.any_map]
  congr 2
  rw [List.any_map, List.any_filter]
  rfl
def φ_lfree (K : PySem.W.Frag) : Ph := fun B vs L k => ∃ (x : SA) (s : AS) (U : List Str) (n : Nat) (p : OD) (key : Str), vs = [.ref x.st, .int p.d, .str key] ∧ L = stL x s.base ∧ StOk K B x s ∧ AS.Ok U n s ∧ n ≤ 1000 ∧ p ∈ x.os ∧ ∀ B', Same B B' → k B' (.bl (s.free p.op key)) (stL x s.base)
theorem fn_l_free (T : Tx w K mg) (fd : FuncData) (F : FunD K "_law_free" "_law_free" (defArgs s_l_free) (defBody s_l_free) (defScope s_l_free) [] [] (He.ga K "_law_free") fd) : FnOk P w K mg base CX0 1 (He.ga K "_law_free") fd ["state", "dealing", "key"] (spY (φ_lfree K)) := by
  refine fnM F sc_l_free (fun B vs L k h => by obtain ⟨_, _, _, _, _, _, rfl, _⟩ := h; rfl) (fun cdv A outer s H vs Q E B L e hz he hr S h => ?_)
  obtain ⟨x, s1, U, n, p, key, rfl, rfl, ok, aok, hn, hp, k⟩ := h
  refine ⟨_, (pss_cons (ps_setLc (i := 4) (own := [("one", 3), ("writes", 5)]) (by rfl) sc_l_free.nd rfl rfl (sw_true rfl rfl rfl (by decide +kernel)) (pi_listK (K := K) rfl (pe_slice (sl_U (K := K) rfl) (pe_ix (ix_U (K := K) rfl (hu_of hr)) (pv 0) pe_str (fun _ _ => rfl)) (po_some (pe_op op_subU (pe_ix (ix_U (K := K) rfl (hu_of hr)) (pe_ix (ix_U (K := K) rfl (hu_of hr)) (pe_ix (ix_U (K := K) rfl (hu_of hr)) (pv 0) pe_str (fun _ _ => rfl)) (pv 1) (fun _ _ => rfl)) pe_int (fun _ _ => rfl)) (pe_ix (ix_U (K := K) rfl (hu_of hr)) (pv 0) pe_str (fun _ _ => rfl)))) po_none)) (blkOk_by (own := [("one", 3), ("writes", 5)]) (N := ["state", "dealing", "key", "one", "others", "writes", "name", "number"]) (sc := defScope s_l_free) (by decide +kernel)) (fun _ _ _ _ _ => (pg_tupK (K := K) (n := 2) rfl rfl (pgs_cons (pg_name (i := 3) sc_l_free.nd rfl (.inl rfl)) (pgs_cons (pg_name (i := 5) sc_l_free.nd rfl (.inl rfl)) pgs_nil)))) (fun _ _ _ _ _ => pts_nil) (fun _ _ _ _ _ => (pv 5)))
      (pss_cons (ps_lock (ps_for PassesOwn.never rfl (pi_keys (pe_ix (ix_U (K := K) rfl (hu_of hr)) (pv 0) pe_str (fun _ _ => rfl))) (pg_name (i := 3) sc_l_free.nd rfl (.inl rfl))
      (pss_one (ps_if (pt_cmpR (op_neZ (K := K) rfl hr.units) (pv 3) (pv 1) (nomark _))
      (pss_one (ps_expr (pe_bmK (K := K) (id := "list.append") rfl (pe_bm PySem.F.plainAttrs_list PySem.F.slot_list_append PySem.F.type_list_append mt_append (pv 4) (pa_cons (pe_ix (ix_U (K := K) rfl (hu_of hr)) (pe_ix (ix_U (K := K) rfl (hu_of hr)) (pe_ix (ix_U (K := K) rfl (hu_of hr)) (pv 0) pe_str (fun _ _ => rfl)) (pv 3) (fun _ _ => rfl)) pe_int (fun _ _ => rfl)) pa_nil)))))
      pss_nil))))
      (pss_one (ps_ret (pe_cmpR (op_eqZ (K := K) rfl hr.units) (pe_lc (own := [("writes", 5)]) (by rfl) sc_l_free.nd (pi_listK (K := K) rfl (pv 4)) (blkOk_by (own := [("writes", 5)]) (N := ["state", "dealing", "key", "one", "others", "writes", "name", "number"]) (sc := defScope s_l_free) (by decide +kernel)) (fun _ _ _ _ _ => (pg_name (i := 5) sc_l_free.nd rfl (.inl rfl))) (fun _ _ _ _ _ => (pts_one (pt_cmpR (op_inZ (K := K) rfl hr.units) (pv 2) (pe_lc (own := [("name", 6), ("number", 7)]) (by rfl) sc_l_free.nd (pi_listK (K := K) rfl (pv 5)) (blkOk_by (own := [("name", 6), ("number", 7)]) (N := ["state", "dealing", "key", "one", "others", "writes", "name", "number"]) (sc := { kind := .function, names := [(".0", .local), ("writes", .local), ("key", .cell)], isGenerator := false, isCoroutine := false }) (by decide +kernel)) (fun _ _ _ _ _ => (pg_tupK (K := K) (n := 2) rfl rfl (pgs_cons (pg_name (i := 6) sc_l_free.nd rfl (.inl rfl)) (pgs_cons (pg_name (i := 7) sc_l_free.nd rfl (.inl rfl)) pgs_nil)))) (fun _ _ _ _ _ => pts_nil) (fun _ _ _ _ _ => (pv 6))) (by rfl)))) (fun _ _ _ _ _ => (pv 5))) (pe_lst pa_nil) (nomark _)))))), ?_⟩
  walk_at "yn"
  have hfr := free_eqL ok p key
  have hop : p.op ∈ s1.opn := by rw [ok.os]; exact List.mem_map.mpr ⟨p, hp, rfl⟩
  obtain ⟨st0, st1⟩ := aok.st _ hop
  have st0 : s1.base ≤ p.stand := st0
  have st1 : p.stand ≤ s1.base + (s1.kept.length : Nat) := st1
  have hkl := aok.kl
  have hol := aok.ol
  have hkx : x.ks.length = s1.kept.length := by rw [ok.ks, List.length_map]
  have hox : x.os.length = s1.opn.length := by rw [ok.os, List.length_map]
  have hkv : (kdV x.ks).length = s1.kept.length := by unfold kdV; rw [List.length_map]; exact hkx
  have nd2 := os_nd ok aok
  have hpt := ok.ot p hp
  have hf3 : ∀ ob u, e.H x.ao ≠ some (.frz ob u) := fun ob u z => by
    rw [he, S.at 2 rfl] at z
    cases z
  walk_at "yn"
  refine y_ixD (k := .inl p.d) (.inl (S.at 2 rfl)) rfl (odK_val nd2 hp) ?_
  walk_at "yn"
  refine y_slL (sqL (S.at 1 rfl)) ?_
  rw [cut_from (by omega) (by omega)]
  refine y_newI S fun lt B1 H b1 hlt _ S => ?_
  have hlk : (kdV x.ks).drop (p.stand - s1.base).toNat = kdV (x.ks.drop (p.stand - s1.base).toNat) := by unfold kdV; rw [List.map_drop]
  rw [hlk] at hlt
  walk_at "yn"
  generalize hks : x.ks.drop (p.stand - s1.base).toNat = ks at hlt hfr
  have hksm : ∀ q ∈ ks, q ∈ x.ks := fun q hq => by rw [← hks] at hq; exact List.mem_of_mem_drop hq
  have hksl : ks.length ≤ n := by rw [← hks, List.length_drop]; omega
  have hkvl : (kdV ks).length = ks.length := by unfold kdV; rw [List.length_map]
  clear hks hlk
  refine y_lcRel (fun _ v b => v = b) eq_up (walk_list (xs := kdV ks)) S (by omega) (fun i => ks[i]?.bind fun q => some (V.ref q.a)) (fun B2 H1 D acc b2 S1 => S1.l (sqL (up_o b2 hlt))) (fun i y B2 H1 H1' acc D Kp Kn hi b2 S hy kp kn => ?_) (fun B2 H acc ot b2 hot hpo S => ?_)
  · obtain ⟨rfl, e2⟩ := hy
    unfold kdV at e2
    rw [List.getElem?_map] at e2
    obtain ⟨q, hq, rfl⟩ := Option.map_eq_some_iff.mp e2
    have hqt := up_t (b1.trans b2) (ok.kt q (hksm q (List.mem_of_getElem? hq)))
    walk_at "yn"
    exact kp _ _ _ _ (by rw [hq]; rfl) (Same.refl _) rfl S
  rw [hkvl, range_bind, fm_some] at hpo
  have e0 := pr_eq hpo
  have e1 : acc = wlV (othW ks (x.os.take 0) p.d) := by
    rw [e0]
    unfold wlV othW
    simp [KD.wl]
  subst e1
  clear e0 hpo
  have bb := b1.trans b2
  have S3 := S.front 3 rfl
  have sB : Same B2 (upd B2 x.ao (.dK (odK x.os))) := (S3.into0).1
  walk_at "yn"
  refine y_lockLS S3 hf3 fun od H e1 nx' rt' bk' ct' he1 hH S hst hnx hrt => ?_
  replace S : Sy e1 (upd B2 x.ao (.dK (odK x.os))) H ((ot, .lst (wlV (othW ks (x.os.take 0) p.d))) :: (x.st, stO x s1.base) :: (x.ak, .lst (kdV x.ks)) :: (odL x.os ++ kdL x.ks)) := S
  have hodl : (odK x.os).length = x.os.length := by unfold odK; rw [List.length_map]
  have othl : ∀ i, (wlV (othW ks (x.os.take i) p.d)).length ≤ 2 * n := fun i => by
    unfold wlV othW
    rw [List.length_map, List.length_append, List.length_map, List.length_map]
    have := List.length_filter_le (fun q : OD => !decide (q.d = p.d)) (x.os.take i)
    rw [List.length_take] at this
    omega
  walk_at "yn"
  refine y_keysK hH ?_
  refine y_forG walk_keys (fun i σ H => (∃ (y3 y5 y6 y7 : Option V), σ = [some (.ref x.st), some (.int p.d), some (.str key), y3, some (.ref ot), y5, y6, y7]) ∧ Sy e1 (upd B2 x.ao (.dK (odK x.os))) H ((ot, .lst (wlV (othW ks (x.os.take i) p.d))) :: (x.st, stO x s1.base) :: (x.ak, .lst (kdV x.ks)) :: (odL x.os ++ kdL x.ks))) ⟨⟨_, _, _, _, rfl⟩, S⟩ (fun i σ H hi ⟨_, S⟩ => hst _ _ _ S) ?_ ?_
  · clear S
    rintro i y σ H H' hi ⟨⟨y3, y5, y6, y7, rfl⟩, S⟩ ⟨rfl, kk, vv, hkk, rfl⟩
    obtain ⟨q, hq⟩ : ∃ q, x.os[i]? = some q := ⟨_, List.getElem?_eq_getElem (by omega)⟩
    have hqm : q ∈ x.os := List.mem_of_getElem? hq
    have hdq : (odK x.os)[i]? = some (.inl q.d, .ref q.t) := by unfold odK; rw [List.getElem?_map, hq]; rfl
    rw [hdq] at hkk
    cases hkk
    have hqt : SqT K (upd B2 x.ao (.dK (odK x.os))) q.t [.int q.stand, .ref q.a] := up_t (bb.trans sB) (ok.ot q hqm)
    rw [show kV (.inl q.d) = .int q.d from rfl]
    rw [oth_step hq]
    walk_at "yn"
    refine y_ifS ?_
    walk_at "yy"
    refine y_iteIN (fun hc => ?_) (fun hc => ?_)
    · walk_at "yy"
      refine y_ixD (k := .inl q.d) (.inr ⟨od, hst _ _ _ S⟩) rfl (odK_val nd2 hqm) ?_
      walk_at "yy"
      refine y_app 0 S rfl (lenLt (by have := othl i; omega)) fun H S => ?_
      try simp only [List.set] at S
      rw [if_neg hc, show wlV (othW ks (x.os.take i) p.d ++ [q.wl]) = wlV (othW ks (x.os.take i) p.d) ++ [V.ref q.a] by unfold wlV; rw [List.map_append]; rfl]
      walk_at "yn"
      exact ⟨⟨_, _, _, _, rfl⟩, S⟩
    · walk_at "yn"
      rw [if_pos hc, List.append_nil]
      exact ⟨⟨_, _, _, _, rfl⟩, S⟩
  clear S
  rintro σ H ⟨⟨y3, y5, y6, y7, rfl⟩, S⟩
  rw [hodl, List.take_length] at S
  have othl2 := othl x.os.length
  rw [List.take_length] at othl2
  refine hnx _ _ _ _ (Same.refl _) S fun H2 sb S2 => ?_
  clear S hnx hrt hst hH he1
  have S := S2.perm (led_erase (L := (ot, HO.lst (wlV (othW ks x.os p.d))) :: stL x s1.base) (n := 3) rfl).symm
  clear S2 S3
  generalize lessA (upd B2 x.ao (.dK (odK x.os))) x.ao = B3 at sb S
  obtain ⟨B4, b4, hot4, S⟩ := S.frz 0 rfl hot
  try simp only [List.eraseIdx] at S
  have ok4 := ok.up (bb.trans (sb.trans b4))
  have hwm : ∀ q ∈ othW ks x.os p.d, (q.a, HO.lst q.vs) ∈ stL x s1.base ∧ Paired (At wC K B4) q.vs q.ws ∧ q.ws.length ≤ n := fun q hq => by
    unfold othW at hq
    rcases List.mem_append.mp hq with hq | hq
    · obtain ⟨r, hr, rfl⟩ := List.mem_map.mp hq
      have hr := hksm r hr
      exact ⟨stL_k hr, ok4.kw r hr, aok.kw r.k (by rw [ok.ks]; exact List.mem_map.mpr ⟨r, hr, rfl⟩)⟩
    · obtain ⟨r, hr, rfl⟩ := List.mem_map.mp hq
      have hr := (List.mem_filter.mp hr).1
      exact ⟨stL_o hr, ok4.ow r hr, aok.wl r.op (by rw [ok.os]; exact List.mem_map.mpr ⟨r, hr, rfl⟩)⟩
  generalize othW ks x.os p.d = wl at hot4 hwm hfr othl2
  have hwl : (wlV wl).length = wl.length := by unfold wlV; rw [List.length_map]
  walk_at "yn"
  refine y_lcRel (fun _ v b => v = b) eq_up (walk_list (xs := wlV wl)) S (by omega) (fun i => wl[i]?.bind fun q => if hasK q.ws key = true then some (V.ref q.a) else none) (fun B5 H1 D acc b5 S1 => S1.l (sqL (up_o b5 hot4))) (fun i y B5 H1 H1' acc D Kp Kn hi b5 S hy kp kn => ?_) (fun B5 H acc D b5 hD hpo S => ?_)
  · obtain ⟨rfl, e2⟩ := hy
    unfold wlV at e2
    rw [List.getElem?_map] at e2
    obtain ⟨q, hq, rfl⟩ := Option.map_eq_some_iff.mp e2
    obtain ⟨m2, hvp, hqn⟩ := hwm q (List.mem_of_getElem? hq)
    have hvl : q.vs.length = q.ws.length := hvp.length
    walk_at "yn"
    refine y_lcRel (At .str K) at_up (walk_list (xs := q.vs)) S (by omega) (fun i => q.ws[i]?.bind fun z => some z.1) (fun B6 H1 D acc b6 S1 => sqL (S1.ledM2 m2)) (fun i y B6 H1 H1' acc D Kp Kn hi b6 S hy kp kn => ?_) (fun B6 H acc2 D2 b6 hD2 hp3 S => ?_)
    · obtain ⟨rfl, e2⟩ := hy
      obtain ⟨z, hz, hyz⟩ := pr_getL hvp e2
      obtain ⟨t, rfl, ht⟩ := wAt (hyz.up (b5.trans b6))
      walk_at "yn"
      exact kp _ _ _ _ (by rw [hz]; rfl) (Same.refl _) .str S
    rw [hvl, range_bind, fm_some] at hp3
    obtain ⟨B7, b7, hD7, S⟩ := S.frz 0 rfl hD2
    try simp only [List.eraseIdx] at S
    refine y_inC .str S .str (.list (sqL hD7) (pr_up at_up b7 hp3)) (by decide) ?_
    rw [← hasK_mem (ws := q.ws)]
    walk_at "yn"
    refine y_iteB (fun hh => ?_) (fun hh => ?_)
    · walk_at "yn"
      exact kp _ _ _ _ (by rw [hq, Option.bind_some, if_pos hh]) (b6.trans b7) rfl S
    · exact kn _ _ (by rw [hq, Option.bind_some, if_neg (by rw [hh]; simp)]) (b6.trans b7) S
  rw [hwl, range_bind] at hpo
  have e0 := pr_eq hpo
  walk_at "yn"
  refine y_newM S fun q0 H hq0 S => ?_
  refine z_eqE (sqL (S.at 1 rfl)) (sqL (S.at 0 rfl)) ?_
  replace S := S.tail.tail
  have e1 : acc.isEmpty = s1.free p.op key := by
    rw [hfr, e0]
    clear hpo e0 hwm othl2 hot4 hfr
    induction wl with
    | nil => rfl
    | cons q wl ih =>
      rw [List.filterMap_cons, List.any_cons]
      have ih := ih (by unfold wlV; rw [List.length_map])
      cases hh : hasK q.ws key with
      | true => simp
      | false => simpa using ih
  rw [e1]
  exact k B5 (bb.trans (sb.trans (b4.trans b5))) _ S
theorem ok_l_free (T : Tx w K mg) : Ok P w K mg base 1 "_law_free" ["state", "dealing", "key"] (spY (φ_lfree K)) :=
  Ok.of T.F_l_free T.g_l_free (fun _ _ _ _ _ _ us hl => match us, hl with | [_, _, _], _ => rfl) (fn_l_free T)
def φ_lplaces (K : PySem.W.Frag) : Ph := fun B vs L k => ∃ (x : SA) (s : AS), vs = [.ref x.st] ∧ L = stL x s.base ∧ StOk K B x s ∧ k B (.int s.places) (stL x s.base)
theorem fn_l_places (T : Tx w K mg) (fd : FuncData) (F : FunD K "_law_places" "_law_places" (defArgs s_l_places) (defBody s_l_places) (defScope s_l_places) [] [] (He.ga K "_law_places") fd) : FnOk P w K mg base CX0 1 (He.ga K "_law_places") fd ["state"] (spY (φ_lplaces K)) := by
  refine fnM F sc_l_places (fun B vs L k h => by obtain ⟨_, _, rfl, _⟩ := h; rfl) (fun cdv A outer s H vs Q E B L e hz he hr S h => ?_)
  obtain ⟨x, s1, rfl, rfl, ok, k⟩ := h
  refine ⟨_, (pss_one (ps_ret (pe_op (op_addU (K := K) rfl) (pe_ix (ix_U (K := K) rfl (hu_of hr)) (pv 0) pe_str (fun _ _ => rfl)) (pe_callB (call_lenU (K := K) rfl) (by rfl) T.n_len (by decide +kernel) (pa_cons (pe_ix (ix_U (K := K) rfl (hu_of hr)) (pv 0) pe_str (fun _ _ => rfl)) pa_nil))))), ?_⟩
  walk_at "yn"
  have hkv : (kdV x.ks).length = s1.kept.length := by unfold kdV; rw [List.length_map, ok.ks, List.length_map]
  rw [hkv]
  exact k _ S
theorem ok_l_places (T : Tx w K mg) : Ok P w K mg base 1 "_law_places" ["state"] (spY (φ_lplaces K)) :=
  Ok.of T.F_l_places T.g_l_places (fun _ _ _ _ _ _ us hl => match us, hl with | [_], _ => rfl) (fn_l_places T)

def φ_deedcan (K : PySem.W.Frag) : Ph := fun B vs L k => ∃ (x : SA) (s : AS) (U : List Str) (n : Nat) (p : OD) (v : V) (ev : Ev), vs = [.ref x.st, v] ∧ L = stL x s.base ∧ At evC K B v ev ∧ IsDeed ev ∧ StOk K B x s ∧ AS.Ok U n s ∧ n ≤ 1000 ∧ U.length ≤ 100 ∧ p ∈ x.os ∧ p.d = evWho ev ∧ ∀ B', Same B B' → k B' (.bl (s.deedB p.op ev)) (stL x s.base)
theorem cut2 {a b : V} {r : List V} : cutV (a :: b :: r) none (some 2) = [a, b] := by
  unfold cutV HT.sIx
  simp
theorem fn_l_deed_can (T : Tx w K mg) (fd : FuncData) (F : FunD K "_law_deed_can" "_law_deed_can" (defArgs s_l_deed_can) (defBody s_l_deed_can) (defScope s_l_deed_can) [] [] (He.ga K "_law_deed_can") fd) : FnOk P w K mg base CX0 3 (He.ga K "_law_deed_can") fd ["state", "event"] (spY (φ_deedcan K)) := by
  refine fnM F sc_l_deed_can (fun B vs L k h => by obtain ⟨_, _, _, _, _, _, _, rfl, _⟩ := h; rfl) (fun cdv A outer s H vs Q E B L e hz he hr S h => ?_)
  obtain ⟨x, s1, U, n, p, v, ev, rfl, rfl, hev, hde, ok, aok, hn, hul, hp, hpd, k⟩ := h
  refine ⟨_, (pss_cons (ps_asg (pe_slice (sl_tupAK (K := K) rfl) (pv 1) po_none (po_some pe_int)) (pg_tupK (K := K) (n := 2) rfl rfl (pgs_cons (pg_name (i := 2) sc_l_deed_can.nd rfl (.inl rfl)) (pgs_cons (pg_name (i := 3) sc_l_deed_can.nd rfl (.inl rfl)) pgs_nil))))
      (pss_cons (ps_set (i := 4) sc_l_deed_can.nd rfl (.inl rfl) (pe_callB (call_lenU (K := K) rfl) (by rfl) T.n_len (by decide +kernel) (pa_cons (pe_ix (ix_U (K := K) rfl (hu_of hr)) (pe_ix (ix_U (K := K) rfl (hu_of hr)) (pe_ix (ix_U (K := K) rfl (hu_of hr)) (pv 0) pe_str (fun _ _ => rfl)) (pv 3) (fun _ _ => rfl)) pe_int (fun _ _ => rfl)) pa_nil)))
      (pss_cons (ps_if (pt_cmpR (op_eqZ (K := K) rfl hr.units) (pv 2) pe_str (nomark _))
      (pss_one (ps_ret (pe_cmpR (op_eqZ (K := K) rfl hr.units) (pe_callO (ok_l_sees (K := K) T) (hr.mono (by decide)) (by rfl) (pa_cons (pv 0) (pa_cons (pv 3) (pa_cons (pe_ix (ix_U (K := K) rfl (hu_of hr)) (pv 1) pe_int (fun _ _ => rfl)) pa_nil)))) (pe_ix (ix_U (K := K) rfl (hu_of hr)) (pv 1) pe_int (fun _ _ => rfl)) (nomark _))))
      pss_nil)
      (pss_cons (ps_if (pt_cmpR (op_eqZ (K := K) rfl hr.units) (pv 2) pe_str (nomark _))
      (pss_one (ps_ret (pe_cmpR (op_eqZ (K := K) rfl hr.units) (pe_callO (ok_l_scanned (K := K) T) hr (by rfl) (pa_cons (pv 0) (pa_cons (pv 3) (pa_cons (pe_ix (ix_U (K := K) rfl (hu_of hr)) (pv 1) pe_int (fun _ _ => rfl)) (pa_cons (pe_ix (ix_U (K := K) rfl (hu_of hr)) (pv 1) pe_int (fun _ _ => rfl)) pa_nil))))) (pe_ix (ix_U (K := K) rfl (hu_of hr)) (pv 1) pe_int (fun _ _ => rfl)) (nomark _))))
      pss_nil)
      (pss_cons (ps_if (pt_cmpR (op_eqZ (K := K) rfl hr.units) (pv 2) pe_str (nomark _))
      (pss_one (ps_ret (pe_callO (ok_l_free (K := K) T) (hr.mono (by decide)) (by rfl) (pa_cons (pv 0) (pa_cons (pv 3) (pa_cons (pe_ix (ix_U (K := K) rfl (hu_of hr)) (pv 1) pe_int (fun _ _ => rfl)) pa_nil))))))
      pss_nil)
      (pss_cons (ps_if (pt_cmpR (op_eqZ (K := K) rfl hr.units) (pv 2) pe_str (nomark _))
      (pss_one (ps_ret (pe_and (pe_callO (ok_l_free (K := K) T) (hr.mono (by decide)) (by rfl) (pa_cons (pv 0) (pa_cons (pv 3) (pa_cons (pe_ix (ix_U (K := K) rfl (hu_of hr)) (pv 1) pe_int (fun _ _ => rfl)) pa_nil)))) (pe_one (pe_cmpR op_isnotU (pe_callO (ok_l_sees (K := K) T) (hr.mono (by decide)) (by rfl) (pa_cons (pv 0) (pa_cons (pv 3) (pa_cons (pe_ix (ix_U (K := K) rfl (hu_of hr)) (pv 1) pe_int (fun _ _ => rfl)) pa_nil)))) pe_non (nomark _))))))
      pss_nil)
      (pss_cons (ps_if (pt_cmpR (op_eqZ (K := K) rfl hr.units) (pv 2) pe_str (nomark _))
      (pss_one (ps_ret (pe_cmpR (op_eqZ (K := K) rfl hr.units) (pe_ix (ix_U (K := K) rfl (hu_of hr)) (pv 1) pe_int (fun _ _ => rfl)) (pv 4) (nomark _))))
      pss_nil)
      (pss_cons (ps_if (pt_cmpR (op_eqZ (K := K) rfl hr.units) (pv 2) pe_str (nomark _))
      (pss_one (ps_ret (pe_chain op_leU op_leU pe_int (pe_ix (ix_U (K := K) rfl (hu_of hr)) (pv 1) pe_int (fun _ _ => rfl)) (pv 4))))
      pss_nil)
      (pss_one (ps_ret (pe_or (pe_cmpR (op_eqZ (K := K) rfl hr.units) (pv 2) pe_str (nomark _)) (pe_one (pe_cmpR (op_eqZ (K := K) rfl hr.units) (pe_ix (ix_U (K := K) rfl (hu_of hr)) (pv 1) pe_int (fun _ _ => rfl)) (pe_op (op_addU (K := K) rfl) (pe_callO (ok_l_places (K := K) T) (hr.mono (by decide)) (by rfl) (pa_cons (pv 0) pa_nil)) pe_int) (nomark _)))))))))))))), ?_⟩
  walk_at "yn"
  obtain ⟨ta, ws, rfl, hta, hre, hwl⟩ := ev_at hev
  obtain ⟨wr, hwr⟩ := hre.who
  subst hwr
  have hpt := ok.ot p hp
  have hvl : p.vs.length = p.ws.length := (ok.ow p hp).length
  have hpl := stL_o (x := x) (b := s1.base) hp
  rw [← hpd] at hta
  rw [← hpd] at hre
  walk_at "yn"
  refine y_slTA S hta fun t B1 H b1 ht S => ?_
  rw [cut2] at ht
  walk_at "yn"
  refine y_ixD (k := .inl p.d) (.inl (S.at 2 rfl)) rfl (odK_val (os_nd ok aok) hp) ?_
  replace hpt := up_t b1 hpt
  walk_at "yn"
  rw [hvl]
  refine y_ifS ?_
  walk_at "yy"
  have ok1 := ok.up b1
  have hta1 := up_t b1 hta
  clear hta
  have hraA : ∀ d lo hi rows, ev = .scan d lo hi rows → ∃ ra, wr = [.str lo, .str hi, .ref ra] ∧ At rwC K B (.ref ra) rows := fun d lo hi rows e => by
    subst e
    obtain ⟨ra, e1, e2⟩ := hre
    exact ⟨ra, (List.cons.inj e1).2, e2⟩
  cases ev with
  | raised => exact absurd rfl hde.r
  | fall => exact absurd rfl hde.f
  | begin => exact absurd rfl hde.b
  | read d key w0 =>
    obtain rfl : wr = [.str key, wV w0] := (List.cons.inj hre).2
    refine y_iteS (fun _ => ?_) (fun c => absurd rfl c)
    walk_at "yy"
    refine y_spG (L := stL x s1.base) (R := []) (by rw [List.append_nil]; exact S) ⟨x, s1, U, n, p, key, rfl, rfl, ok1, aok, hn, hp, fun B2 b2 H T => ?_⟩
    obtain ⟨-, S, -⟩ := Sy.backG (R := []) (by rw [List.append_nil]; exact S) T
    clear T
    rw [List.append_nil] at S
    walk_at "yy"
    refine y_eqOI ?_
    exact k B2 (b1.trans b2) _ S
  | scan d lo hi rows =>
    obtain ⟨ra, rfl, hra⟩ := hraA d lo hi rows rfl
    refine y_iteS (fun c => absurd c (by first | decide | (simp only [evTag]; decide))) (fun _ => ?_)
    walk_at "yy"
    refine y_iteS (fun _ => ?_) (fun c => absurd rfl c)
    walk_at "yy"
    refine y_spG (L := stL x s1.base) (R := []) (by rw [List.append_nil]; exact S) ⟨x, s1, U, n, p, lo, hi, rfl, rfl, ok1, aok, hn, hul, hp, fun sa B2 b2 hsa _ H T => ?_⟩
    obtain ⟨-, S, -⟩ := Sy.backG (R := []) (by rw [List.append_nil]; exact S) T
    clear T
    rw [List.append_nil] at S
    walk_at "yy"
    refine y_eqC rwC S hsa (hra.up (b1.trans b2)) (by decide) ?_
    have := k B2 (b1.trans b2)
    rw [show s1.deedB p.op (.scan d lo hi rows) = decide (s1.scanned p.op lo hi = rows) from (by show decide (rows = s1.scanned p.op lo hi) = _; rw [decide_eq_decide]; exact eq_comm)] at this
    exact this _ S
  | put d key w0 =>
    obtain rfl : wr = [.str key, .int w0] := (List.cons.inj hre).2
    refine y_iteS (fun c => absurd c (by first | decide | (simp only [evTag]; decide))) (fun _ => ?_)
    walk_at "yy"
    refine y_iteS (fun c => absurd c (by first | decide | (simp only [evTag]; decide))) (fun _ => ?_)
    walk_at "yy"
    refine y_iteS (fun _ => ?_) (fun c => absurd rfl c)
    walk_at "yy"
    refine y_spG (L := stL x s1.base) (R := []) (by rw [List.append_nil]; exact S) ⟨x, s1, U, n, p, key, rfl, rfl, ok1, aok, hn, hp, fun B2 b2 H T => ?_⟩
    obtain ⟨-, S, -⟩ := Sy.backG (R := []) (by rw [List.append_nil]; exact S) T
    rw [List.append_nil] at S
    exact k B2 (b1.trans b2) _ S
  | drop d key =>
    obtain rfl : wr = [.str key] := (List.cons.inj hre).2
    refine y_iteS (fun c => absurd c (by first | decide | (simp only [evTag]; decide))) (fun _ => ?_)
    walk_at "yy"
    refine y_iteS (fun c => absurd c (by first | decide | (simp only [evTag]; decide))) (fun _ => ?_)
    walk_at "yy"
    refine y_iteS (fun c => absurd c (by first | decide | (simp only [evTag]; decide))) (fun _ => ?_)
    walk_at "yy"
    refine y_iteS (fun _ => ?_) (fun c => absurd rfl c)
    walk_at "yy"
    refine y_spG (L := stL x s1.base) (R := []) (by rw [List.append_nil]; exact S) ⟨x, s1, U, n, p, key, rfl, rfl, ok1, aok, hn, hp, fun B2 b2 H T => ?_⟩
    obtain ⟨-, S, -⟩ := Sy.backG (R := []) (by rw [List.append_nil]; exact S) T
    clear T
    rw [List.append_nil] at S
    walk_at "yy"
    cases hfr : s1.free p.op key with
    | false =>
      walk_at "yy"
      have := k B2 (b1.trans b2)
      rw [show s1.deedB p.op (.drop d key) = false from (by show (s1.free p.op key && _) = false; rw [hfr]; rfl)] at this
      exact this _ S
    | true =>
      walk_at "yy"
      refine y_spG (L := stL x s1.base) (R := []) (by rw [List.append_nil]; exact S) ⟨x, s1, U, n, p, key, rfl, rfl, ok1.up b2, aok, hn, hp, fun B3 b3 H T => ?_⟩
      obtain ⟨-, S, -⟩ := Sy.backG (R := []) (by rw [List.append_nil]; exact S) T
      clear T
      rw [List.append_nil] at S
      walk_at "yy"
      have := k B3 (b1.trans (b2.trans b3))
      rw [show s1.deedB p.op (.drop d key) = (s1.sees p.op key).isSome from (by show (s1.free p.op key && _) = _; rw [hfr]; rfl)] at this
      cases hse : s1.sees p.op key with
      | none =>
        rw [hse] at this
        rw [show wV none = .non from rfl]
        walk_at "yy"
        exact this _ S
      | some w1 =>
        rw [hse] at this
        rw [show wV (some w1) = .int w1 from rfl]
        walk_at "yy"
        exact this _ S
  | mark d m =>
    obtain rfl : wr = [.int m] := (List.cons.inj hre).2
    refine y_iteS (fun c => absurd c (by first | decide | (simp only [evTag]; decide))) (fun _ => ?_)
    walk_at "yy"
    refine y_iteS (fun c => absurd c (by first | decide | (simp only [evTag]; decide))) (fun _ => ?_)
    walk_at "yy"
    refine y_iteS (fun c => absurd c (by first | decide | (simp only [evTag]; decide))) (fun _ => ?_)
    walk_at "yy"
    refine y_iteS (fun c => absurd c (by first | decide | (simp only [evTag]; decide))) (fun _ => ?_)
    walk_at "yy"
    refine y_iteS (fun _ => ?_) (fun c => absurd rfl c)
    walk_at "yy"
    have := k B1 b1
    rw [show s1.deedB p.op (.mark d m) = decide (V.int m = V.int (p.ws.length : Nat)) from (by show decide (m = (p.ws.length : Nat)) = _; rw [decide_eq_decide]; exact ⟨fun z => by rw [z], fun z => V.int.inj z⟩)] at this
    exact this _ S
  | back d m =>
    obtain rfl : wr = [.int m] := (List.cons.inj hre).2
    refine y_iteS (fun c => absurd c (by first | decide | (simp only [evTag]; decide))) (fun _ => ?_)
    walk_at "yy"
    refine y_iteS (fun c => absurd c (by first | decide | (simp only [evTag]; decide))) (fun _ => ?_)
    walk_at "yy"
    refine y_iteS (fun c => absurd c (by first | decide | (simp only [evTag]; decide))) (fun _ => ?_)
    walk_at "yy"
    refine y_iteS (fun c => absurd c (by first | decide | (simp only [evTag]; decide))) (fun _ => ?_)
    walk_at "yy"
    refine y_iteS (fun c => absurd c (by first | decide | (simp only [evTag]; decide))) (fun _ => ?_)
    walk_at "yy"
    refine y_iteS (fun _ => ?_) (fun c => absurd rfl c)
    walk_at "yy"
    have := k B1 b1
    refine y_ite (fun c => ?_) (fun c => ?_)
    · walk_at "yy"
      rw [show s1.deedB p.op (.back d m) = decide (m ≤ (p.ws.length : Nat)) from (by show (decide (0 ≤ m) && decide (m ≤ (p.ws.length : Nat))) = _; rw [decide_eq_true c]; rfl)] at this
      exact this _ S
    · walk_at "yy"
      rw [show s1.deedB p.op (.back d m) = false from (by show (decide (0 ≤ m) && decide (m ≤ (p.ws.length : Nat))) = _; rw [decide_eq_false c]; rfl)] at this
      exact this _ S
  | keep d m =>
    obtain rfl : wr = [.int m] := (List.cons.inj hre).2
    refine y_iteS (fun c => absurd c (by first | decide | (simp only [evTag]; decide))) (fun _ => ?_)
    walk_at "yy"
    refine y_iteS (fun c => absurd c (by first | decide | (simp only [evTag]; decide))) (fun _ => ?_)
    walk_at "yy"
    refine y_iteS (fun c => absurd c (by first | decide | (simp only [evTag]; decide))) (fun _ => ?_)
    walk_at "yy"
    refine y_iteS (fun c => absurd c (by first | decide | (simp only [evTag]; decide))) (fun _ => ?_)
    walk_at "yy"
    refine y_iteS (fun c => absurd c (by first | decide | (simp only [evTag]; decide))) (fun _ => ?_)
    walk_at "yy"
    refine y_iteS (fun c => absurd c (by first | decide | (simp only [evTag]; decide))) (fun _ => ?_)
    walk_at "yy"
    refine y_iteS (fun c => absurd c (by simp only [evTag]; decide)) (fun _ => ?_)
    walk_at "yy"
    refine y_spG (L := stL x s1.base) (R := []) (by rw [List.append_nil]; exact S) ⟨x, s1, rfl, rfl, ok1, fun H T => ?_⟩
    obtain ⟨-, S, -⟩ := Sy.backG (R := []) (by rw [List.append_nil]; exact S) T
    clear T
    rw [List.append_nil] at S
    walk_at "yy"
    have := k B1 b1
    rw [show s1.deedB p.op (.keep d m) = decide (V.int m = V.int (s1.places + 1)) from (by show decide (m = s1.places + 1) = _; rw [decide_eq_decide]; exact ⟨fun z => by rw [z], fun z => V.int.inj z⟩)] at this
    exact this _ S
  | undo d =>
    obtain rfl : wr = [] := (List.cons.inj hre).2
    refine y_iteS (fun c => absurd c (by first | decide | (simp only [evTag]; decide))) (fun _ => ?_)
    walk_at "yy"
    refine y_iteS (fun c => absurd c (by first | decide | (simp only [evTag]; decide))) (fun _ => ?_)
    walk_at "yy"
    refine y_iteS (fun c => absurd c (by first | decide | (simp only [evTag]; decide))) (fun _ => ?_)
    walk_at "yy"
    refine y_iteS (fun c => absurd c (by first | decide | (simp only [evTag]; decide))) (fun _ => ?_)
    walk_at "yy"
    refine y_iteS (fun c => absurd c (by first | decide | (simp only [evTag]; decide))) (fun _ => ?_)
    walk_at "yy"
    refine y_iteS (fun c => absurd c (by first | decide | (simp only [evTag]; decide))) (fun _ => ?_)
    walk_at "yy"
    refine y_iteS (fun _ => ?_) (fun c => absurd rfl c)
    walk_at "yy"
    exact k B1 b1 _ S
theorem ok_l_deed_can (T : Tx w K mg) : Ok P w K mg base 3 "_law_deed_can" ["state", "event"] (spY (φ_deedcan K)) :=
  Ok.of T.F_l_deed_can T.g_l_deed_can (fun _ _ _ _ _ _ us hl => match us, hl with | [_, _], _ => rfl) (fn_l_deed_can T)

theorem odL_at {os : List OD} {j : Nat} {p : OD} (h : os[j]? = some p) : (odL os)[j]? = some (p.a, .lst p.vs) := by
  unfold odL
  rw [List.getElem?_map, h]
  rfl
theorem stL_at {x : SA} {b : Int} {j : Nat} {p : OD} (h : x.os[j]? = some p) : (stL x b)[3 + j]? = some (p.a, .lst p.vs) := by
  rw [show 3 + j = j + 1 + 1 + 1 by omega]
  show (odL x.os ++ kdL x.ks)[j]? = _
  have h1 := odL_at h
  rw [List.getElem?_append_left (List.getElem?_eq_some_iff.mp h1).1]
  exact h1
theorem odK_set {os : List OD} {j : Nat} {p q : OD} (h : os[j]? = some p) (h1 : q.d = p.d) (h2 : q.t = p.t) : odK (os.set j q) = odK os := by
  unfold odK
  rw [List.map_set]
  apply List.ext_getElem?
  intro i
  rw [List.getElem?_set]
  split
  · next e =>
    subst e
    have hl : j < os.length := (List.getElem?_eq_some_iff.mp h).1
    rw [if_pos (by rw [List.length_map]; exact hl), List.getElem?_map, h, h1, h2]
    rfl
  · rfl
theorem odK_put {os : List OD} {j : Nat} {p q : OD} (nd : (os.map (·.d)).Nodup) (h : os[j]? = some p) (h1 : q.d = p.d) : putK (odK os) (.inl p.d) (.ref q.t) = odK (os.set j q) := by
  have hany : ((odK os).any fun kv => decide (kv.1 = Sum.inl p.d)) = true := List.any_eq_true.mpr ⟨(.inl p.d, .ref p.t), List.mem_map.mpr ⟨p, List.mem_of_getElem? h, rfl⟩, decide_eq_true rfl⟩
  unfold putK
  rw [if_pos hany]
  unfold odK
  rw [List.map_map, List.map_set]
  apply List.ext_getElem?
  intro i
  rw [List.getElem?_map, List.getElem?_set, List.length_map]
  by_cases c : j = i
  · subst c
    rw [if_pos rfl, if_pos (List.getElem?_eq_some_iff.mp h).1, h]
    show some (if (Sum.inl p.d : Key) = Sum.inl p.d then _ else _) = _
    rw [if_pos rfl, h1]
  · rw [if_neg c, List.getElem?_map]
    cases e : os[i]? with
    | none => rfl
    | some r =>
      have hne : r.d ≠ p.d := fun z => by
        have e1 : (os.map (·.d))[i]? = some r.d := by rw [List.getElem?_map, e]; rfl
        have e2 : (os.map (·.d))[j]? = some p.d := by rw [List.getElem?_map, h]; rfl
        exact c ((List.getElem?_inj (by rw [List.length_map]; exact (List.getElem?_eq_some_iff.mp h).1) nd).mp (by rw [e1, e2, z]))
      show some (if (Sum.inl r.d : Key) = Sum.inl p.d then _ else _) = _
      rw [if_neg fun z => hne (Sum.inl.inj z)]
      rfl
theorem odL_set {os : List OD} {j : Nat} (q : OD) : (odL os).set j (q.a, .lst q.vs) = odL (os.set j q) := by
  unfold odL
  rw [List.map_set]
theorem stL_set {x : SA} {b : Int} {j : Nat} {p : OD} (q : OD) (h : x.os[j]? = some p) : (stL x b).set (3 + j) (q.a, .lst q.vs) = (x.st, stO x b) :: (x.ak, .lst (kdV x.ks)) :: (x.ao, .dK (odK x.os)) :: (odL (x.os.set j q) ++ kdL x.ks) := by
  rw [show 3 + j = j + 1 + 1 + 1 by omega]
  show _ :: _ :: _ :: (odL x.os ++ kdL x.ks).set j _ = _
  have h1 := odL_at h
  rw [List.set_append_left _ _ (List.getElem?_eq_some_iff.mp h1).1, odL_set]
theorem set_opL {B : Hp} {x : SA} {s : AS} {f : Wr → Wr} (ok : StOk K B x s) (nd : (x.os.map (·.d)).Nodup) {j : Nat} {p : OD} (h : x.os[j]? = some p) (q : OD) (hq : q.op = ⟨p.d, p.stand, f p.ws⟩) : s.upd p.d f = (x.os.set j q).map OD.op := by
  unfold AS.upd
  rw [ok.os, List.map_map]
  apply List.ext_getElem?
  intro i
  rw [List.getElem?_map, List.getElem?_map, List.getElem?_set]
  by_cases c : j = i
  · subst c
    rw [if_pos rfl, if_pos (List.getElem?_eq_some_iff.mp h).1, h]
    show some (if p.op.d = p.d then ({ p.op with ws := f p.op.ws } : Op) else p.op) = some q.op
    rw [if_pos (show p.op.d = p.d from rfl), hq]
    rfl
  · rw [if_neg c]
    cases e : x.os[i]? with
    | none => rfl
    | some r =>
      have hne : r.d ≠ p.d := fun z => by
        have e1 : (x.os.map (·.d))[i]? = some r.d := by rw [List.getElem?_map, e]; rfl
        have e2 : (x.os.map (·.d))[j]? = some p.d := by rw [List.getElem?_map, h]; rfl
        exact c ((List.getElem?_inj (by rw [List.length_map]; exact (List.getElem?_eq_some_iff.mp h).1) nd).mp (by rw [e1, e2, z]))
      show some (if r.op.d = p.d then ({ r.op with ws := f r.op.ws } : Op) else r.op) = some r.op
      rw [if_neg (show ¬ r.op.d = p.d from hne)]
theorem StOk.wr {B : Hp} {x : SA} {s : AS} {f : Wr → Wr} (ok : StOk K B x s) (nd : (x.os.map (·.d)).Nodup) {j : Nat} {p : OD} (h : x.os[j]? = some p) (q : OD) (hq : q.op = ⟨p.d, p.stand, f p.ws⟩) (hw : Paired (At wC K B) q.vs q.ws) (ht : SqT K B q.t [.int q.stand, .ref q.a]) : StOk K B { x with os := x.os.set j q } { s with opn := s.upd p.d f } :=
  ⟨ok.sd, ok.ks, set_opL ok nd h q hq, ok.kt, fun r hr => by
    rcases List.mem_or_eq_of_mem_set hr with hr | rfl
    · exact ok.ot r hr
    · exact ht, ok.kw, fun r hr => by
    rcases List.mem_or_eq_of_mem_set hr with hr | rfl
    · exact ok.ow r hr
    · exact hw⟩
theorem odK_drop {os : List OD} {d : Int} : dropK (odK os) (.inl d) = odK (os.filter fun p => !decide (p.d = d)) := by
  unfold dropK odK
  rw [List.filter_map]
  congr 1
  apply List.filter_congr
  intro p _
  show decide (¬ (Sum.inl p.d : Key) = .inl d) = !decide (p.d = d)
  rw [← decide_not, decide_eq_decide]
  exact ⟨fun h z => h (by rw [z]), fun h z => h (Sum.inl.inj z)⟩
theorem os_out {os : List OD} {p : OD} (nd : (os.map (·.d)).Nodup) (h : p ∈ os) : os.Perm (p :: os.filter fun q => !decide (q.d = p.d)) := by
  induction os with
  | nil => cases h
  | cons q os ih =>
    rw [List.map_cons, List.nodup_cons] at nd
    rcases List.mem_cons.mp h with rfl | h
    · rw [List.filter_cons, if_neg (by simp)]
      have e : os.filter (fun q => !decide (q.d = p.d)) = os := List.filter_eq_self.mpr fun q hq => by
        have : q.d ≠ p.d := fun z => nd.1 (List.mem_map.mpr ⟨q, hq, z⟩)
        simp [this]
      rw [e]
    · have hne : q.d ≠ p.d := fun z => nd.1 (by rw [z]; exact List.mem_map.mpr ⟨p, h, rfl⟩)
      rw [List.filter_cons, if_pos (by simp [hne])]
      exact ((ih nd.2 h).cons q).trans (List.Perm.swap _ _ _)
theorem out_opL {B : Hp} {x : SA} {s : AS} (ok : StOk K B x s) (d : Int) : s.out d = (x.os.filter fun q => !decide (q.d = d)).map OD.op := by
  unfold AS.out
  rw [ok.os, List.filter_map]
  rfl
theorem stL_snoc {e : En} {B H : Hp} {x : SA} {b : Int} {q : OD} (h : ∀ p ∈ x.os, p.d ≠ q.d) (S : Sy e B H ((q.a, .lst q.vs) :: (stL x b).set 2 (x.ao, .dK (putK (odK x.os) (.inl q.d) (.ref q.t))))) : Sy e B H (stL { x with os := x.os ++ [q] } b) := by
  have e1 : putK (odK x.os) (.inl q.d) (.ref q.t) = odK (x.os ++ [q]) := by
    rw [putK_new _ (odK_none h)]
    unfold odK
    rw [List.map_append]
    rfl
  rw [e1] at S
  refine S.perm ?_
  show List.Perm ((q.a, HO.lst q.vs) :: ([(x.st, stO x b), (x.ak, HO.lst (kdV x.ks)), (x.ao, HO.dK (odK (x.os ++ [q])))] ++ odL x.os ++ kdL x.ks)) ([(x.st, stO x b), (x.ak, HO.lst (kdV x.ks)), (x.ao, HO.dK (odK (x.os ++ [q])))] ++ (odL (x.os ++ [q]) ++ kdL x.ks))
  have e2 : odL (x.os ++ [q]) ++ kdL x.ks = odL x.os ++ (q.a, HO.lst q.vs) :: kdL x.ks := by
    unfold odL
    rw [List.map_append, List.append_assoc]
    rfl
  rw [e2, ← List.append_assoc]
  exact List.perm_middle.symm
def φ_happens (K : PySem.W.Frag) : Ph := fun B vs L k => ∃ (x : SA) (s : AS) (U : List Str) (n i : Nat) (v : V) (ev : Ev), vs = [.ref x.st, v] ∧ L = stL x s.base ∧ At evC K B v ev ∧ StOk K B x s ∧ AS.Ok U n s ∧ EvOk U ev ∧ n ≤ 1000 ∧ s.canB i ev = true ∧
  ∀ x' B', Same B B' → x'.st = x.st → StOk K B' x' (s.happens ev) → k B' .non (stL x' (s.happens ev).base)
theorem can_find {s : AS} {i : Nat} {ev : Ev} (h : IsDeed ev) (hc : s.canB i ev = true) : ∃ o, s.find (evWho ev) = some o := by
  rw [h.can] at hc
  cases q : s.find (evWho ev) with
  | none => rw [q] at hc; cases hc
  | some o => exact ⟨o, rfl⟩
theorem StOk.findQ {B : Hp} {U : List Str} {n i : Nat} {x : SA} {s : AS} {ev : Ev} (ok : StOk K B x s) (aok : AS.Ok U n s) (h : IsDeed ev) (hc : s.canB i ev = true) : ∃ (p : OD) (j : Nat), x.os[j]? = some p ∧ p ∈ x.os ∧ p.d = evWho ev ∧ s.find (evWho ev) = some p.op ∧ valV (odK x.os) (.inl (evWho ev)) = some (.ref p.t) := by
  obtain ⟨o, ho⟩ := can_find h hc
  rcases ok.find aok (evWho ev) with ⟨h1, _⟩ | ⟨p, j, h1, h2, h3, h4⟩
  · rw [h1] at ho; cases ho
  · exact ⟨p, j, h1, List.mem_of_getElem? h1, h2, h3, h4⟩
theorem fn_l_happens (T : Tx w K mg) (fd : FuncData) (F : FunD K "_law_happens" "_law_happens" (defArgs s_l_happens) (defBody s_l_happens) (defScope s_l_happens) [] [] (He.ga K "_law_happens") fd) : FnOk P w K mg base CX0 2 (He.ga K "_law_happens") fd ["state", "event"] (spY (φ_happens K)) := by
  refine fnM F sc_l_happens (fun B vs L k h => by obtain ⟨_, _, _, _, _, _, _, rfl, _⟩ := h; rfl) (fun cdv A outer s H vs Q E B L e hz he hr S h => ?_)
  obtain ⟨x, s1, U, n, i0, v, ev, rfl, rfl, hev, ok, aok, eok, hn, hcan, k⟩ := h
  refine ⟨_, (pss_cons (ps_set (i := 2) sc_l_happens.nd rfl (.inl rfl) (pe_ix (ix_U (K := K) rfl (hu_of hr)) (pv 1) pe_int (fun _ _ => rfl)))
      (pss_one (ps_if (pt_cmpR (op_eqZ (K := K) rfl hr.units) (pv 2) pe_str (nomark _))
      (pss_cons (ps_asg (pe_ix (ix_U (K := K) rfl (hu_of hr)) (pv 1) pe_int (fun _ _ => rfl)) (pg_sub (pv 0) pe_str (set_U (hu_of hr))))
      (pss_one (ps_asg (pe_callTy (call_dictU (K := K) rfl rfl) (by rfl) T.n_dict (by decide +kernel) (pa_cons (pe_ix (ix_U (K := K) rfl (hu_of hr)) (pv 1) pe_int (fun _ _ => rfl)) pa_nil)) (pg_sub (pv 0) pe_str (set_U (hu_of hr))))))
      (pss_one (ps_if (pt_cmpR (op_eqZ (K := K) rfl hr.units) (pv 2) pe_str (nomark _))
      (pss_cons (ps_asg (pe_slice (sl_U (K := K) rfl) (pe_ix (ix_U (K := K) rfl (hu_of hr)) (pv 0) pe_str (fun _ _ => rfl)) po_none (po_some (pe_op op_subU (pe_ix (ix_U (K := K) rfl (hu_of hr)) (pv 1) pe_int (fun _ _ => rfl)) (pe_ix (ix_U (K := K) rfl (hu_of hr)) (pv 0) pe_str (fun _ _ => rfl))))) (pg_sub (pv 0) pe_str (set_U (hu_of hr))))
      (pss_one (ps_asg pe_dnewK (pg_sub (pv 0) pe_str (set_U (hu_of hr))))))
      (pss_one (ps_if (pt_cmpR (op_eqZ (K := K) rfl hr.units) (pv 2) pe_str (nomark _))
      (pss_one (ps_asg (pe_tup (pa_cons (pe_callO (ok_l_places (K := K) T) hr (by rfl) (pa_cons (pv 0) pa_nil)) (pa_cons (pe_lst pa_nil) pa_nil))) (pg_sub (pe_ix (ix_U (K := K) rfl (hu_of hr)) (pv 0) pe_str (fun _ _ => rfl)) (pe_ix (ix_U (K := K) rfl (hu_of hr)) (pv 1) pe_int (fun _ _ => rfl)) (set_U (hu_of hr)))))
      (pss_one (ps_if (pt_cmpR (op_eqZ (K := K) rfl hr.units) (pv 2) pe_str (nomark _))
      (pss_one (ps_expr (pe_bmK (K := K) (id := "list.append") rfl (pe_bm PySem.F.plainAttrs_list PySem.F.slot_list_append PySem.F.type_list_append mt_append (pe_ix (ix_U (K := K) rfl (hu_of hr)) (pe_ix (ix_U (K := K) rfl (hu_of hr)) (pe_ix (ix_U (K := K) rfl (hu_of hr)) (pv 0) pe_str (fun _ _ => rfl)) (pe_ix (ix_U (K := K) rfl (hu_of hr)) (pv 1) pe_int (fun _ _ => rfl)) (fun _ _ => rfl)) pe_int (fun _ _ => rfl)) (pa_cons (pe_tup (pa_cons (pe_ix (ix_U (K := K) rfl (hu_of hr)) (pv 1) pe_int (fun _ _ => rfl)) (pa_cons (pe_ix (ix_U (K := K) rfl (hu_of hr)) (pv 1) pe_int (fun _ _ => rfl)) pa_nil))) pa_nil)))))
      (pss_one (ps_if (pt_cmpR (op_eqZ (K := K) rfl hr.units) (pv 2) pe_str (nomark _))
      (pss_one (ps_expr (pe_bmK (K := K) (id := "list.append") rfl (pe_bm PySem.F.plainAttrs_list PySem.F.slot_list_append PySem.F.type_list_append mt_append (pe_ix (ix_U (K := K) rfl (hu_of hr)) (pe_ix (ix_U (K := K) rfl (hu_of hr)) (pe_ix (ix_U (K := K) rfl (hu_of hr)) (pv 0) pe_str (fun _ _ => rfl)) (pe_ix (ix_U (K := K) rfl (hu_of hr)) (pv 1) pe_int (fun _ _ => rfl)) (fun _ _ => rfl)) pe_int (fun _ _ => rfl)) (pa_cons (pe_tup (pa_cons (pe_ix (ix_U (K := K) rfl (hu_of hr)) (pv 1) pe_int (fun _ _ => rfl)) (pa_cons pe_non pa_nil))) pa_nil)))))
      (pss_one (ps_if (pt_cmpR (op_eqZ (K := K) rfl hr.units) (pv 2) pe_str (nomark _))
      (pss_cons (ps_asg (pe_ix (ix_U (K := K) rfl (hu_of hr)) (pe_ix (ix_U (K := K) rfl (hu_of hr)) (pv 0) pe_str (fun _ _ => rfl)) (pe_ix (ix_U (K := K) rfl (hu_of hr)) (pv 1) pe_int (fun _ _ => rfl)) (fun _ _ => rfl)) (pg_tupK (K := K) (n := 2) rfl rfl (pgs_cons (pg_name (i := 3) sc_l_happens.nd rfl (.inl rfl)) (pgs_cons (pg_name (i := 4) sc_l_happens.nd rfl (.inl rfl)) pgs_nil))))
      (pss_one (ps_asg (pe_tup (pa_cons (pv 3) (pa_cons (pe_slice (sl_U (K := K) rfl) (pv 4) po_none (po_some (pe_ix (ix_U (K := K) rfl (hu_of hr)) (pv 1) pe_int (fun _ _ => rfl)))) pa_nil))) (pg_sub (pe_ix (ix_U (K := K) rfl (hu_of hr)) (pv 0) pe_str (fun _ _ => rfl)) (pe_ix (ix_U (K := K) rfl (hu_of hr)) (pv 1) pe_int (fun _ _ => rfl)) (set_U (hu_of hr))))))
      (pss_one (ps_if (pt_cmpR (op_eqZ (K := K) rfl hr.units) (pv 2) pe_str (nomark _))
      (pss_one (ps_expr (pe_bmK (K := K) (id := "list.append") rfl (pe_bm PySem.F.plainAttrs_list PySem.F.slot_list_append PySem.F.type_list_append mt_append (pe_ix (ix_U (K := K) rfl (hu_of hr)) (pv 0) pe_str (fun _ _ => rfl)) (pa_cons (pe_tup (pa_cons (pe_ix (ix_U (K := K) rfl (hu_of hr)) (pv 1) pe_int (fun _ _ => rfl)) (pa_cons (pe_ix (ix_U (K := K) rfl (hu_of hr)) (pe_dpop1 (pe_ix (ix_U (K := K) rfl (hu_of hr)) (pv 0) pe_str (fun _ _ => rfl)) (pe_ix (ix_U (K := K) rfl (hu_of hr)) (pv 1) pe_int (fun _ _ => rfl)) (by exact ⟨rfl, rfl, rfl, rfl⟩)) pe_int (fun _ _ => rfl)) pa_nil))) pa_nil)))))
      (pss_one (ps_if (pt_cmpR (op_eqZ (K := K) rfl hr.units) (pv 2) pe_str (nomark _))
      (pss_one (ps_expr (pe_dpop1 (pe_ix (ix_U (K := K) rfl (hu_of hr)) (pv 0) pe_str (fun _ _ => rfl)) (pe_ix (ix_U (K := K) rfl (hu_of hr)) (pv 1) pe_int (fun _ _ => rfl)) (by exact ⟨rfl, rfl, rfl, rfl⟩))))
      pss_nil))))))))))))))))), ?_⟩
  walk_at "yn"
  obtain ⟨ta, ws, rfl, hta, hre, hwl⟩ := ev_at hev
  have nd2 := os_nd ok aok
  have hol := aok.ol
  have hkl := aok.kl
  have hkx : x.ks.length = s1.kept.length := by rw [ok.ks, List.length_map]
  have hox : x.os.length = s1.opn.length := by rw [ok.os, List.length_map]
  have hodl : (odK x.os).length = x.os.length := by unfold odK; rw [List.length_map]
  have hkvl : (kdV x.ks).length = x.ks.length := by unfold kdV; rw [List.length_map]
  have hdeed : IsDeed ev → ∃ (p : OD) (j : Nat), x.os[j]? = some p ∧ p ∈ x.os ∧ p.d = evWho ev ∧ s1.find (evWho ev) = some p.op ∧ valV (odK x.os) (.inl (evWho ev)) = some (.ref p.t) ∧ SqT K B p.t [.int p.stand, .ref p.a] ∧ (p.a, HO.lst p.vs) ∈ stL x s1.base ∧ Paired (At wC K B) p.vs p.ws ∧ p.vs.length ≤ n := fun h => by
    obtain ⟨p, j, h1, h2, h3, h4, h5⟩ := ok.findQ aok h hcan
    refine ⟨p, j, h1, h2, h3, h4, h5, ok.ot p h2, stL_o h2, ok.ow p h2, ?_⟩
    have e1 : p.vs.length = p.ws.length := (ok.ow p h2).length
    rw [e1]
    exact aok.wl p.op (by rw [ok.os]; exact List.mem_map.mpr ⟨p, h2, rfl⟩)
  obtain ⟨wr, hwr⟩ := hre.who
  subst hwr
  walk_at "yn"
  refine y_ixT (S.t hta) (atI_of (by decide) rfl) ?_
  walk_at "yn"
  refine y_ifS ?_
  walk_at "yy"
  cases ev with
  | raised m rows =>
    obtain ⟨ra, e1, hra⟩ := hre
    obtain rfl : wr = [.ref ra] := (List.cons.inj e1).2
    simp only [evWho] at hta
    obtain ⟨r0, r1, r2⟩ := eok.rs m rows rfl
    refine y_iteS (fun _ => ?_) (fun c => absurd rfl c)
    walk_at "yy"
    refine y_setDS 0 S rfl (Nat.le_of_ble_eq_true rfl) rfl fun H S => ?_
    try simp only [List.set] at S
    walk_at "yy"
    refine y_dictS S hra r1 ?_
    refine y_newI S fun nd B1 H b1 hnd _ S => ?_
    walk_at "yy"
    refine y_setDS 0 S rfl (Nat.le_of_ble_eq_true rfl) rfl fun H S => ?_
    try simp only [List.set] at S
    have ok1 := ok.up b1
    exact k { x with sd := nd } B1 b1 rfl ⟨hnd, ok1.ks, ok1.os, ok1.kt, ok1.ot, ok1.kw, ok1.ow⟩ _ S
  | fall m =>
    obtain rfl : wr = [] := (List.cons.inj hre).2
    simp only [evWho] at hta
    have hc : (decide (s1.base ≤ m) && decide (m ≤ s1.places)) = true := hcan
    rw [Bool.and_eq_true, decide_eq_true_iff] at hc
    refine y_iteS (fun c => absurd c (by first | decide | (simp only [evTag]; decide))) (fun _ => ?_)
    walk_at "yy"
    refine y_iteS (fun _ => ?_) (fun c => absurd rfl c)
    walk_at "yy"
    refine y_slL (sqL (S.at 1 rfl)) ?_
    rw [cut_to (by omega)]
    refine y_newM S fun nk H hnk0 S => ?_
    walk_at "yy"
    refine y_setDS 1 S rfl (Nat.le_of_ble_eq_true rfl) rfl fun H S => ?_
    try simp only [List.set] at S
    walk_at "yy"
    refine y_newM S fun no H hno0 S => ?_
    walk_at "yy"
    refine y_setDS 2 S rfl (Nat.le_of_ble_eq_true rfl) rfl fun H S => ?_
    try simp only [List.set] at S
    have S2 : Sy e B H ((no, .dK []) :: (nk, .lst ((kdV x.ks).take (m - s1.base).toNat)) :: (x.st, stO { x with ak := nk, ao := no } s1.base) :: (kdL (x.ks.take (m - s1.base).toNat))) := by
      refine S.sub (((List.Sublist.cons_cons _ ?_).cons_cons _).cons_cons _)
      refine List.Sublist.cons _ (List.Sublist.cons _ (List.Sublist.trans ?_ (List.sublist_append_right _ _)))
      unfold kdL
      exact (List.take_sublist _ _).map _
    have S3 : Sy e B H (stL { x with ak := nk, ao := no, ks := x.ks.take (m - s1.base).toNat, os := [] } s1.base) := by
      refine S2.perm ?_
      have e1 : (kdV x.ks).take (m - s1.base).toNat = kdV (x.ks.take (m - s1.base).toNat) := by unfold kdV; rw [List.map_take]
      rw [e1]
      exact (List.Perm.swap _ _ _ |>.trans (List.Perm.cons _ (List.Perm.swap _ _ _))).trans (List.Perm.swap _ _ _)
    refine k { x with ak := nk, ao := no, ks := x.ks.take (m - s1.base).toNat, os := [] } B (Same.refl _) rfl ⟨ok.sd, ?_, rfl, fun p hp => ok.kt p (List.mem_of_mem_take hp), fun p hp => (by cases hp), fun p hp => ok.kw p (List.mem_of_mem_take hp), fun p hp => (by cases hp)⟩ _ S3
    show s1.kept.take _ = (x.ks.take _).map _
    rw [List.map_take, ok.ks]
  | begin d =>
    obtain rfl : wr = [] := (List.cons.inj hre).2
    simp only [evWho] at hta
    have hc : (decide (0 < d) && (!(s1.find d).isSome && !(s1.kept.any fun p => decide (p.1 = d)))) = true := hcan
    simp only [Bool.and_eq_true, Bool.not_eq_true'] at hc
    have hf : s1.find d = none := by
      cases q : s1.find d with
      | none => rfl
      | some o => rw [q] at hc; exact absurd hc.2.1 (by simp)
    have hnew : ∀ p ∈ x.os, p.d ≠ d := fun p hp => AS.find_none hf p.op (by rw [ok.os]; exact List.mem_map.mpr ⟨p, hp, rfl⟩)
    refine y_iteS (fun c => absurd c (by first | decide | (simp only [evTag]; decide))) (fun _ => ?_)
    walk_at "yy"
    refine y_iteS (fun c => absurd c (by first | decide | (simp only [evTag]; decide))) (fun _ => ?_)
    walk_at "yy"
    refine y_iteS (fun _ => ?_) (fun c => absurd rfl c)
    walk_at "yy"
    refine y_spG (L := stL x s1.base) (R := []) (by rw [List.append_nil]; exact S) ⟨x, s1, rfl, rfl, ok, fun H T => ?_⟩
    obtain ⟨-, S, -⟩ := Sy.backG (R := []) (by rw [List.append_nil]; exact S) T
    clear T
    rw [List.append_nil] at S
    walk_at "yy"
    refine y_newM S fun na H hna0 S => ?_
    walk_at "yy"
    refine y_newI S fun t B1 H b1 ht _ S => ?_
    walk_at "yy"
    refine y_setD (kk := .inl d) 3 S rfl rfl (lenLt (by omega)) fun H S => ?_
    have S2 := stL_snoc (q := ⟨d, s1.places, t, na, [], []⟩) hnew S
    have ok1 := ok.up b1
    refine k { x with os := x.os ++ [⟨d, s1.places, t, na, [], []⟩] } B1 b1 rfl ⟨ok1.sd, ok1.ks, ?_, ok1.kt, fun p hp => ?_, ok1.kw, fun p hp => ?_⟩ _ S2
    · show s1.opn ++ [_] = (x.os ++ [_]).map OD.op
      rw [List.map_append, ← ok.os]
      rfl
    · rcases List.mem_append.mp hp with hp | hp
      · exact ok1.ot p hp
      · rw [List.mem_singleton.mp hp]; exact sqT ht
    · rcases List.mem_append.mp hp with hp | hp
      · exact ok1.ow p hp
      · rw [List.mem_singleton.mp hp]; exact .nil
  | put d key w0 =>
    obtain rfl : wr = [.str key, .int w0] := (List.cons.inj hre).2
    obtain ⟨p, j, hj, hp, hpd, hf, hv, hpt, hpl, hpw, hpn⟩ := hdeed ⟨by simp only [evTag]; decide, by simp only [evTag]; decide, by simp only [evTag]; decide⟩
    replace hpd : p.d = d := hpd
    subst hpd
    replace hf : s1.find p.d = some p.op := hf
    replace hv : valV (odK x.os) (.inl p.d) = some (.ref p.t) := hv
    simp only [evWho] at hta
    refine y_iteS (fun c => absurd c (by first | decide | (simp only [evTag]; decide))) (fun _ => ?_)
    walk_at "yy"
    refine y_iteS (fun c => absurd c (by first | decide | (simp only [evTag]; decide))) (fun _ => ?_)
    walk_at "yy"
    refine y_iteS (fun c => absurd c (by first | decide | (simp only [evTag]; decide))) (fun _ => ?_)
    walk_at "yy"
    refine y_iteS (fun _ => ?_) (fun c => absurd rfl c)
    walk_at "yy"
    refine y_ixD (k := .inl p.d) (.inl (S.at 2 rfl)) rfl hv ?_
    walk_at "yy"
    refine y_newI S fun t B1 H b1 ht _ S => ?_
    walk_at "yy"
    refine y_app (3 + j) S (stL_at hj) (lenLt (by omega)) fun H S => ?_
    rw [stL_set { p with vs := p.vs ++ [.ref t], ws := p.ws ++ [(key, some w0)] } hj, ← odK_set (q := { p with vs := p.vs ++ [.ref t], ws := p.ws ++ [(key, some w0)] }) hj rfl rfl] at S
    have hw1 := (ok.up b1).wr (f := (· ++ [(key, some w0)])) nd2 hj { p with vs := p.vs ++ [.ref t], ws := p.ws ++ [(key, some w0)] } rfl (wsAt_snoc (w0 := some w0) (pr_up at_up b1 hpw) ht) (up_t b1 hpt)
    exact k { x with os := x.os.set j { p with vs := p.vs ++ [.ref t], ws := p.ws ++ [(key, some w0)] } } B1 b1 rfl hw1 _ S
  | drop d key =>
    obtain rfl : wr = [.str key] := (List.cons.inj hre).2
    obtain ⟨p, j, hj, hp, hpd, hf, hv, hpt, hpl, hpw, hpn⟩ := hdeed ⟨by simp only [evTag]; decide, by simp only [evTag]; decide, by simp only [evTag]; decide⟩
    replace hpd : p.d = d := hpd
    subst hpd
    replace hf : s1.find p.d = some p.op := hf
    replace hv : valV (odK x.os) (.inl p.d) = some (.ref p.t) := hv
    simp only [evWho] at hta
    refine y_iteS (fun c => absurd c (by first | decide | (simp only [evTag]; decide))) (fun _ => ?_)
    walk_at "yy"
    refine y_iteS (fun c => absurd c (by first | decide | (simp only [evTag]; decide))) (fun _ => ?_)
    walk_at "yy"
    refine y_iteS (fun c => absurd c (by first | decide | (simp only [evTag]; decide))) (fun _ => ?_)
    walk_at "yy"
    refine y_iteS (fun c => absurd c (by first | decide | (simp only [evTag]; decide))) (fun _ => ?_)
    walk_at "yy"
    refine y_iteS (fun _ => ?_) (fun c => absurd rfl c)
    walk_at "yy"
    refine y_ixD (k := .inl p.d) (.inl (S.at 2 rfl)) rfl hv ?_
    walk_at "yy"
    refine y_newI S fun t B1 H b1 ht _ S => ?_
    walk_at "yy"
    refine y_app (3 + j) S (stL_at hj) (lenLt (by omega)) fun H S => ?_
    rw [stL_set { p with vs := p.vs ++ [.ref t], ws := p.ws ++ [(key, none)] } hj, ← odK_set (q := { p with vs := p.vs ++ [.ref t], ws := p.ws ++ [(key, none)] }) hj rfl rfl] at S
    have hw1 := (ok.up b1).wr (f := (· ++ [(key, none)])) nd2 hj { p with vs := p.vs ++ [.ref t], ws := p.ws ++ [(key, none)] } rfl (wsAt_snoc (w0 := none) (pr_up at_up b1 hpw) ht) (up_t b1 hpt)
    exact k { x with os := x.os.set j { p with vs := p.vs ++ [.ref t], ws := p.ws ++ [(key, none)] } } B1 b1 rfl hw1 _ S
  | back d m =>
    obtain rfl : wr = [.int m] := (List.cons.inj hre).2
    obtain ⟨p, j, hj, hp, hpd, hf, hv, hpt, hpl, hpw, hpn⟩ := hdeed ⟨by simp only [evTag]; decide, by simp only [evTag]; decide, by simp only [evTag]; decide⟩
    replace hpd : p.d = d := hpd
    subst hpd
    replace hf : s1.find p.d = some p.op := hf
    replace hv : valV (odK x.os) (.inl p.d) = some (.ref p.t) := hv
    simp only [evWho] at hta
    have hm0 : 0 ≤ m := by
      have h1 : s1.canB i0 (.back p.d m) = true := hcan
      rw [IsDeed.can ⟨by simp only [evTag]; decide, by simp only [evTag]; decide, by simp only [evTag]; decide⟩, show s1.find (evWho (.back p.d m)) = some p.op from hf] at h1
      have h1 : (decide (0 ≤ m) && decide (m ≤ (p.ws.length : Nat))) = true := h1
      rw [Bool.and_eq_true] at h1
      exact of_decide_eq_true h1.1
    refine y_iteS (fun c => absurd c (by first | decide | (simp only [evTag]; decide))) (fun _ => ?_)
    walk_at "yy"
    refine y_iteS (fun c => absurd c (by first | decide | (simp only [evTag]; decide))) (fun _ => ?_)
    walk_at "yy"
    refine y_iteS (fun c => absurd c (by first | decide | (simp only [evTag]; decide))) (fun _ => ?_)
    walk_at "yy"
    refine y_iteS (fun c => absurd c (by first | decide | (simp only [evTag]; decide))) (fun _ => ?_)
    walk_at "yy"
    refine y_iteS (fun c => absurd c (by first | decide | (simp only [evTag]; decide))) (fun _ => ?_)
    walk_at "yy"
    refine y_iteS (fun _ => ?_) (fun c => absurd rfl c)
    walk_at "yy"
    refine y_ixD (k := .inl p.d) (.inl (S.at 2 rfl)) rfl hv ?_
    walk_at "yy"
    refine y_slL (sqL (S.ledM hpl)) ?_
    rw [cut_to hm0]
    refine y_newM S fun nw H hnw0 S => ?_
    walk_at "yy"
    refine y_newI S fun t B1 H b1 ht _ S => ?_
    walk_at "yy"
    refine y_setD (kk := .inl p.d) 3 S rfl rfl (lenLt (by omega)) fun H S => ?_
    have e1 : putK (odK x.os) (.inl p.d) (.ref t) = odK (x.os.set j { p with t := t, a := nw, vs := p.vs.take m.toNat, ws := p.ws.take m.toNat }) := by
      exact odK_put (q := { p with t := t, a := nw, vs := p.vs.take m.toNat, ws := p.ws.take m.toNat }) nd2 hj rfl
    rw [e1] at S
    replace S := Sy.swapIn (q := (p.a, .lst p.vs)) (3 + j) (S : Sy e B1 H ((nw, .lst (p.vs.take m.toNat)) :: (x.st, stO x s1.base) :: (x.ak, .lst (kdV x.ks)) :: (x.ao, .dK (odK (x.os.set j { p with t := t, a := nw, vs := p.vs.take m.toNat, ws := p.ws.take m.toNat }))) :: (odL x.os ++ kdL x.ks))) (by
      have := stL_at (b := s1.base) hj
      rw [show 3 + j = j + 1 + 1 + 1 by omega] at this ⊢
      exact this)
    have e2 : (List.set (stL x s1.base) 2 (x.ao, HO.dK (odK (x.os.set j { p with t := t, a := nw, vs := p.vs.take m.toNat, ws := p.ws.take m.toNat })))).set (3 + j) (nw, HO.lst (p.vs.take m.toNat)) = stL { x with os := x.os.set j { p with t := t, a := nw, vs := p.vs.take m.toNat, ws := p.ws.take m.toNat } } s1.base := by
      show ((x.st, stO x s1.base) :: (x.ak, HO.lst (kdV x.ks)) :: (x.ao, HO.dK (odK (x.os.set j { p with t := t, a := nw, vs := p.vs.take m.toNat, ws := p.ws.take m.toNat }))) :: (odL x.os ++ kdL x.ks)).set (3 + j) (nw, HO.lst (p.vs.take m.toNat)) = stL { x with os := x.os.set j { p with t := t, a := nw, vs := p.vs.take m.toNat, ws := p.ws.take m.toNat } } s1.base
      rw [show 3 + j = j + 1 + 1 + 1 by omega]
      show _ :: _ :: _ :: (odL x.os ++ kdL x.ks).set j _ = _ :: _ :: _ :: (odL (x.os.set j _) ++ kdL x.ks)
      have h1 := odL_at hj
      rw [List.set_append_left _ _ (List.getElem?_eq_some_iff.mp h1).1]
      rw [← odL_set { p with t := t, a := nw, vs := p.vs.take m.toNat, ws := p.ws.take m.toNat }]
    rw [e2] at S
    have hw1 := (ok.up b1).wr (f := (·.take m.toNat)) nd2 hj { p with t := t, a := nw, vs := p.vs.take m.toNat, ws := p.ws.take m.toNat } rfl (pr_take _ (pr_up at_up b1 hpw)) (sqT ht)
    exact k { x with os := x.os.set j { p with t := t, a := nw, vs := p.vs.take m.toNat, ws := p.ws.take m.toNat } } B1 b1 rfl hw1 _ S
  | keep d m =>
    obtain rfl : wr = [.int m] := (List.cons.inj hre).2
    obtain ⟨p, j, hj, hp, hpd, hf, hv, hpt, hpl, hpw, hpn⟩ := hdeed ⟨by simp only [evTag]; decide, by simp only [evTag]; decide, by simp only [evTag]; decide⟩
    replace hpd : p.d = d := hpd
    subst hpd
    replace hf : s1.find p.d = some p.op := hf
    replace hv : valV (odK x.os) (.inl p.d) = some (.ref p.t) := hv
    simp only [evWho] at hta
    have hhap : s1.happens (.keep p.d m) = { s1 with kept := s1.kept ++ [(p.d, p.ws)], opn := s1.out p.d } := by
      show ({ s1 with kept := s1.kept ++ (match s1.find p.d with | none => [] | some o => [(p.d, o.ws)]), opn := s1.out p.d } : AS) = _
      rw [hf]
      rfl
    rw [hhap] at k
    refine y_iteS (fun c => absurd c (by first | decide | (simp only [evTag]; decide))) (fun _ => ?_)
    walk_at "yy"
    refine y_iteS (fun c => absurd c (by first | decide | (simp only [evTag]; decide))) (fun _ => ?_)
    walk_at "yy"
    refine y_iteS (fun c => absurd c (by first | decide | (simp only [evTag]; decide))) (fun _ => ?_)
    walk_at "yy"
    refine y_iteS (fun c => absurd c (by first | decide | (simp only [evTag]; decide))) (fun _ => ?_)
    walk_at "yy"
    refine y_iteS (fun c => absurd c (by first | decide | (simp only [evTag]; decide))) (fun _ => ?_)
    walk_at "yy"
    refine y_iteS (fun c => absurd c (by first | decide | (simp only [evTag]; decide))) (fun _ => ?_)
    walk_at "yy"
    refine y_iteS (fun _ => ?_) (fun c => absurd rfl c)
    walk_at "yy"
    refine ⟨x.ao, rfl, .inl ⟨_, .inl (S.at 2 rfl)⟩, ?_⟩
    walk_at "yy"
    refine ⟨_, .inl p.d, _, S.at 2 rfl, rfl, hv, ?_⟩
    replace S := S.wr 2 rfl (.dK (dropK (odK x.os) (.inl p.d)))
    rw [odK_drop] at S
    rw [odK_drop]
    try simp only [List.set] at S
    generalize hH : upd H x.ao (.dK (odK (x.os.filter fun q => !decide (q.d = p.d)))) = H2 at S ⊢
    clear hH
    walk_at "yy"
    refine y_newI S fun t B1 H b1 ht _ S => ?_
    walk_at "yy"
    refine y_app 1 S rfl (lenLt (by omega)) fun H S => ?_
    try simp only [List.set] at S
    have hperm : (odL x.os).Perm ((p.a, .lst p.vs) :: odL (x.os.filter fun q => !decide (q.d = p.d))) := by
      exact (os_out nd2 hp).map _
    have S2 : Sy e B1 H (stL { x with ks := x.ks ++ [p.kd t], os := x.os.filter fun q => !decide (q.d = p.d) } s1.base) := by
      refine S.perm ?_
      have e1 : kdV x.ks ++ [V.ref t] = kdV (x.ks ++ [p.kd t]) := by unfold kdV; rw [List.map_append]; rfl
      rw [e1]
      refine List.Perm.cons _ (List.Perm.cons _ (List.Perm.cons _ ?_))
      have e2 : kdL (x.ks ++ [p.kd t]) = kdL x.ks ++ [(p.a, .lst p.vs)] := by unfold kdL; rw [List.map_append]; rfl
      show (odL x.os ++ kdL x.ks).Perm (odL _ ++ kdL (x.ks ++ [p.kd t]))
      rw [e2]
      refine (hperm.append_right _).trans ?_
      rw [← List.append_assoc]
      exact (List.perm_append_singleton _ _).symm
    have ok1 := ok.up b1
    refine k { x with ks := x.ks ++ [p.kd t], os := x.os.filter fun q => !decide (q.d = p.d) } B1 b1 rfl ⟨ok1.sd, ?_, out_opL ok p.d, fun q hq => ?_, fun q hq => ok1.ot q (List.mem_filter.mp hq).1, fun q hq => ?_, fun q hq => ok1.ow q (List.mem_filter.mp hq).1⟩ _ S2
    · show s1.kept ++ [_] = (x.ks ++ [_]).map KD.k
      rw [List.map_append, ← ok.ks]
      rfl
    · rcases List.mem_append.mp hq with hq | hq
      · exact ok1.kt q hq
      · rw [List.mem_singleton.mp hq]
        show SqT K B1 t [.int p.d, .ref p.a]
        exact sqT ht
    · rcases List.mem_append.mp hq with hq | hq
      · exact ok1.kw q hq
      · rw [List.mem_singleton.mp hq]
        exact pr_up at_up b1 hpw
  | undo d =>
    obtain rfl : wr = [] := (List.cons.inj hre).2
    obtain ⟨p, j, hj, hp, hpd, hf, hv, hpt, hpl, hpw, hpn⟩ := hdeed ⟨by simp only [evTag]; decide, by simp only [evTag]; decide, by simp only [evTag]; decide⟩
    replace hpd : p.d = d := hpd
    subst hpd
    replace hf : s1.find p.d = some p.op := hf
    replace hv : valV (odK x.os) (.inl p.d) = some (.ref p.t) := hv
    simp only [evWho] at hta
    refine y_iteS (fun c => absurd c (by first | decide | (simp only [evTag]; decide))) (fun _ => ?_)
    walk_at "yy"
    refine y_iteS (fun c => absurd c (by first | decide | (simp only [evTag]; decide))) (fun _ => ?_)
    walk_at "yy"
    refine y_iteS (fun c => absurd c (by first | decide | (simp only [evTag]; decide))) (fun _ => ?_)
    walk_at "yy"
    refine y_iteS (fun c => absurd c (by first | decide | (simp only [evTag]; decide))) (fun _ => ?_)
    walk_at "yy"
    refine y_iteS (fun c => absurd c (by first | decide | (simp only [evTag]; decide))) (fun _ => ?_)
    walk_at "yy"
    refine y_iteS (fun c => absurd c (by first | decide | (simp only [evTag]; decide))) (fun _ => ?_)
    walk_at "yy"
    refine y_iteS (fun c => absurd c (by first | decide | (simp only [evTag]; decide))) (fun _ => ?_)
    walk_at "yy"
    refine y_iteS (fun _ => ?_) (fun c => absurd rfl c)
    walk_at "yy"
    refine ⟨x.ao, rfl, .inl ⟨_, .inl (S.at 2 rfl)⟩, ?_⟩
    walk_at "yy"
    refine ⟨_, .inl p.d, _, S.at 2 rfl, rfl, hv, ?_⟩
    replace S := S.wr 2 rfl (.dK (dropK (odK x.os) (.inl p.d)))
    rw [odK_drop] at S
    rw [odK_drop]
    try simp only [List.set] at S
    have S2 := S.sub (L' := stL { x with os := x.os.filter fun q => !decide (q.d = p.d) } s1.base) ((((List.Sublist.map _ List.filter_sublist).append_right _).cons_cons _ |>.cons_cons _).cons_cons _)
    walk_at "yy"
    exact k { x with os := x.os.filter fun q => !decide (q.d = p.d) } B (Same.refl _) rfl ⟨ok.sd, ok.ks, out_opL ok p.d, ok.kt, fun q hq => ok.ot q (List.mem_filter.mp hq).1, ok.kw, fun q hq => ok.ow q (List.mem_filter.mp hq).1⟩ _ S2
  | read d key w0 =>
    refine y_iteS (fun c => absurd c (by first | decide | (simp only [evTag]; decide))) (fun _ => ?_)
    walk_at "yy"
    refine y_iteS (fun c => absurd c (by first | decide | (simp only [evTag]; decide))) (fun _ => ?_)
    walk_at "yy"
    refine y_iteS (fun c => absurd c (by first | decide | (simp only [evTag]; decide))) (fun _ => ?_)
    walk_at "yy"
    refine y_iteS (fun c => absurd c (by first | decide | (simp only [evTag]; decide))) (fun _ => ?_)
    walk_at "yy"
    refine y_iteS (fun c => absurd c (by first | decide | (simp only [evTag]; decide))) (fun _ => ?_)
    walk_at "yy"
    refine y_iteS (fun c => absurd c (by first | decide | (simp only [evTag]; decide))) (fun _ => ?_)
    walk_at "yy"
    refine y_iteS (fun c => absurd c (by first | decide | (simp only [evTag]; decide))) (fun _ => ?_)
    walk_at "yy"
    refine y_iteS (fun c => absurd c (by first | decide | (simp only [evTag]; decide))) (fun _ => ?_)
    walk_at "yy"
    exact k x B (Same.refl _) rfl ok _ S
  | scan d lo hi rows =>
    refine y_iteS (fun c => absurd c (by first | decide | (simp only [evTag]; decide))) (fun _ => ?_)
    walk_at "yy"
    refine y_iteS (fun c => absurd c (by first | decide | (simp only [evTag]; decide))) (fun _ => ?_)
    walk_at "yy"
    refine y_iteS (fun c => absurd c (by first | decide | (simp only [evTag]; decide))) (fun _ => ?_)
    walk_at "yy"
    refine y_iteS (fun c => absurd c (by first | decide | (simp only [evTag]; decide))) (fun _ => ?_)
    walk_at "yy"
    refine y_iteS (fun c => absurd c (by first | decide | (simp only [evTag]; decide))) (fun _ => ?_)
    walk_at "yy"
    refine y_iteS (fun c => absurd c (by first | decide | (simp only [evTag]; decide))) (fun _ => ?_)
    walk_at "yy"
    refine y_iteS (fun c => absurd c (by first | decide | (simp only [evTag]; decide))) (fun _ => ?_)
    walk_at "yy"
    refine y_iteS (fun c => absurd c (by first | decide | (simp only [evTag]; decide))) (fun _ => ?_)
    walk_at "yy"
    exact k x B (Same.refl _) rfl ok _ S
  | mark d m =>
    refine y_iteS (fun c => absurd c (by first | decide | (simp only [evTag]; decide))) (fun _ => ?_)
    walk_at "yy"
    refine y_iteS (fun c => absurd c (by first | decide | (simp only [evTag]; decide))) (fun _ => ?_)
    walk_at "yy"
    refine y_iteS (fun c => absurd c (by first | decide | (simp only [evTag]; decide))) (fun _ => ?_)
    walk_at "yy"
    refine y_iteS (fun c => absurd c (by first | decide | (simp only [evTag]; decide))) (fun _ => ?_)
    walk_at "yy"
    refine y_iteS (fun c => absurd c (by first | decide | (simp only [evTag]; decide))) (fun _ => ?_)
    walk_at "yy"
    refine y_iteS (fun c => absurd c (by first | decide | (simp only [evTag]; decide))) (fun _ => ?_)
    walk_at "yy"
    refine y_iteS (fun c => absurd c (by first | decide | (simp only [evTag]; decide))) (fun _ => ?_)
    walk_at "yy"
    refine y_iteS (fun c => absurd c (by first | decide | (simp only [evTag]; decide))) (fun _ => ?_)
    walk_at "yy"
    exact k x B (Same.refl _) rfl ok _ S
theorem ok_l_happens (T : Tx w K mg) : Ok P w K mg base 2 "_law_happens" ["state", "event"] (spY (φ_happens K)) :=
  Ok.of T.F_l_happens T.g_l_happens (fun _ _ _ _ _ _ us hl => match us, hl with | [_, _], _ => rfl) (fn_l_happens T)

/-! ### a history is made -/
structure Pos (s : AS) : Prop where
  o : ∀ q ∈ s.opn, 0 < q.d
  k : ∀ q ∈ s.kept, 0 < q.1
theorem Pos.step {s : AS} {i : Nat} {ev : Ev} (h : Pos s) (hc : s.canB i ev = true) : Pos (s.happens ev) := by
  have up : ∀ d f, Pos { s with opn := s.upd d f } := fun d f => ⟨fun q hq => by
    obtain ⟨r, hr, rfl⟩ := List.mem_map.mp hq
    have := h.o r hr
    show 0 < (if r.d = d then ({ r with ws := f r.ws } : Op) else r).d
    split <;> exact this, h.k⟩
  cases ev with
  | read => exact h
  | scan => exact h
  | mark => exact h
  | put d key w => exact up d _
  | drop d key => exact up d _
  | back d m => exact up d _
  | undo d => exact ⟨fun q hq => h.o q (List.mem_filter.mp hq).1, h.k⟩
  | raised => exact ⟨h.o, h.k⟩
  | fall m => exact ⟨fun q hq => (by cases hq), fun q hq => h.k q (List.mem_of_mem_take hq)⟩
  | begin d =>
    have hc : (decide (0 < d) && (!(s.find d).isSome && !(s.kept.any fun p => decide (p.1 = d)))) = true := hc
    simp only [Bool.and_eq_true, decide_eq_true_eq] at hc
    refine ⟨fun q hq => ?_, h.k⟩
    rcases List.mem_append.mp hq with hq | hq
    · exact h.o q hq
    · rw [List.mem_singleton.mp hq]; exact hc.1
  | keep d p =>
    refine ⟨fun q hq => h.o q (List.mem_filter.mp hq).1, fun q hq => ?_⟩
    have hq : q ∈ s.kept ++ (match s.find d with | none => [] | some o => [(d, o.ws)]) := hq
    rcases List.mem_append.mp hq with hq | hq
    · exact h.k q hq
    · cases e : s.find d with
      | none => rw [e] at hq; cases hq
      | some o =>
        rw [e] at hq
        rw [List.mem_singleton.mp hq]
        obtain ⟨h1, h2⟩ := AS.find_mem e
        show 0 < d
        rw [← h2]
        exact h.o o h1
def φ_newst (K : PySem.W.Frag) : Ph := fun B vs L k => vs = [] ∧ L = [] ∧ ∀ x B', Same B B' → x.ks = [] → x.os = [] → StOk K B' x AS.init → k B' (.ref x.st) (stL x 0)
theorem fn_l_new_state (T : Tx w K mg) (fd : FuncData) (F : FunD K "_law_new_state" "_law_new_state" (defArgs s_l_new_state) (defBody s_l_new_state) (defScope s_l_new_state) [] [] (He.ga K "_law_new_state") fd) : FnOk P w K mg base CX0 1 (He.ga K "_law_new_state") fd [] (spY (φ_newst K)) := by
  refine fnM F sc_l_new_state (fun B vs L k h => by obtain ⟨rfl, _⟩ := h; rfl) (fun cdv A outer s H vs Q E B L e hz he hr S h => ?_)
  obtain ⟨rfl, rfl, k⟩ := h
  refine ⟨_, (pss_one (ps_ret (pe_disp (pps_cons pe_str pe_int (pps_cons pe_str pe_dnewK (pps_cons pe_str (pe_lst pa_nil) (pps_cons pe_str pe_dnewK pps_nil)))) (by rfl) (by rfl) (fun z => by cases z) (by decide)))), ?_⟩
  walk_at "yn"
  refine y_disp S fun p H hp S => ?_
  walk_at "yn"
  refine y_newI S fun sd B1 H b1 hsd _ S => ?_
  walk_at "yn"
  refine y_newM S fun ak H hak0 S => ?_
  walk_at "yn"
  refine y_newM S fun ao H hao0 S => ?_
  walk_at "yn"
  refine y_dispK [(.inr "base", .int 0), (.inr "start", .ref sd), (.inr "kept", .ref ak), (.inr "open", .ref ao)] 2 S rfl rfl (by simp) rfl fun H S => ?_
  try simp only [List.set] at S
  replace S : Sy _ _ _ [_, _, _] := S.ix [2, 1, 0] (n := 3) rfl (by decide)
  exact k ⟨p, sd, ak, ao, [], []⟩ B1 b1 rfl rfl ⟨hsd, rfl, rfl, fun q hq => (by cases hq), fun q hq => (by cases hq), fun q hq => (by cases hq), fun q hq => (by cases hq)⟩ _ S
theorem ok_l_new_state (T : Tx w K mg) : Ok P w K mg base 1 "_law_new_state" [] (spY (φ_newst K)) :=
  Ok.of T.F_l_new_state T.g_l_new_state (fun _ _ _ _ _ _ us hl => match us, hl with | [], _ => rfl) (fn_l_new_state T)
def φ_worth (K : PySem.W.Frag) : Ph := fun B vs L k => ∃ (b : Addr) (o : HO) (n : Nat), vs = [.ref b] ∧ L = [(b, o)] ∧ Bag (n + 4) o ∧ ∀ i o' B', Same B B' → Bag n o' → k B' (.int i) [(b, o')]
theorem ten20 : (10 : Int) ^ (20 : Int).toNat = 100000000000000000000 := by decide
theorem fn_l_worth (T : Tx w K mg) (fd : FuncData) (F : FunD K "_law_worth" "_law_worth" (defArgs s_l_worth) (defBody s_l_worth) (defScope s_l_worth) [] [] (He.ga K "_law_worth") fd) : FnOk P w K mg base CX0 3 (He.ga K "_law_worth") fd ["well"] (spY (φ_worth K)) := by
  refine fnM F sc_l_worth (fun B vs L k h => by obtain ⟨_, _, _, rfl, _⟩ := h; rfl) (fun cdv A outer s H vs Q E B L e hz he hr S h => ?_)
  obtain ⟨bg, o, n, rfl, rfl, hb, k⟩ := h
  refine ⟨_, (pss_cons (ps_set (i := 1) sc_l_worth.nd rfl (.inl rfl) (pe_op (op_addU (K := K) rfl) (pe_op op_subU (pe_callO (ok_l_draw (K := K) T) hr (by rfl) (pa_cons (pv 0) (pa_cons (pe_op op_subU (pe_op op_mulZ pe_int (pe_op op_powU pe_int pe_int)) pe_int) pa_nil))) (pe_op op_powU pe_int pe_int)) pe_int))
      (pss_one (ps_ret (pe_ix (ix_U (K := K) rfl (hu_of hr)) (pe_lst (pa_cons (pe_callO (ok_l_draw (K := K) T) hr (by rfl) (pa_cons (pv 0) (pa_cons pe_int pa_nil))) (pa_cons (pe_op op_subU (pe_callO (ok_l_draw (K := K) T) hr (by rfl) (pa_cons (pv 0) (pa_cons pe_int pa_nil))) pe_int) (pa_cons (pv 1) pa_nil)))) (pe_callO (ok_l_draw (K := K) T) hr (by rfl) (pa_cons (pv 0) (pa_cons pe_int pa_nil))) (fun _ _ => rfl))))), ?_⟩
  walk_at "yn"
  refine y_powI (pow_ok (b := 4) (by decide) (by decide) (by decide) (by decide) (by decide)) ?_
  rw [ten20]
  refine y_mulW (a := 3) (b := 70) (by decide) (by decide) (by decide) (by decide) (by decide) ?_
  walk_at "yn"
  refine y_drawN 0 S rfl hb (by omega) (by omega) (by omega) fun g o H g0 g1 hb S => ?_
  try simp only [List.set] at S
  walk_at "yn"
  refine y_powI (pow_ok (b := 4) (by decide) (by decide) (by decide) (by decide) (by decide)) ?_
  rw [ten20]
  walk_at "yn"
  refine y_drawN 0 S rfl hb (by omega) (by omega) (by omega) fun i1 o H i10 i11 hb S => ?_
  try simp only [List.set] at S
  walk_at "yn"
  refine y_drawN 0 S rfl hb (by omega) (by omega) (by omega) fun i2 o H i20 i21 hb S => ?_
  try simp only [List.set] at S
  walk_at "yn"
  refine y_newI S fun q B1 H b1 hq _ S => ?_
  walk_at "yn"
  refine y_drawN 0 S rfl hb (by omega) (by omega) (by omega) fun i3 o H i30 i31 hb S => ?_
  try simp only [List.set] at S
  walk_at "yn"
  refine y_ixM (S.l (sqL hq)) (by omega) (by exact i31) fun v hv => ?_
  rcases List.mem_cons.mp hv with rfl | hv
  · exact k _ _ B1 b1 (hb.mono (by omega)) _ S
  rcases List.mem_cons.mp hv with rfl | hv
  · exact k _ _ B1 b1 (hb.mono (by omega)) _ S
  rw [List.mem_singleton.mp hv]
  exact k _ _ B1 b1 (hb.mono (by omega)) _ S
theorem ok_l_worth (T : Tx w K mg) : Ok P w K mg base 3 "_law_worth" ["well"] (spY (φ_worth K)) :=
  Ok.of T.F_l_worth T.g_l_worth (fun _ _ _ _ _ _ us hl => match us, hl with | [_], _ => rfl) (fn_l_worth T)
def φ_edge (K : PySem.W.Frag) : Ph := fun B vs L k => ∃ (b : Addr) (o : HO) (a : Addr) (zs : List Str) (n : Nat), vs = [.ref b, .ref a] ∧ L = [(b, o)] ∧ Bag (n + 2) o ∧ At cS K B (.ref a) zs ∧ 0 < zs.length ∧ zs.length ≤ 20 ∧ (∀ z ∈ zs, KeyS z) ∧ ∀ z o' B', Same B B' → Bag n o' → k B' (.str z) [(b, o')]
theorem fn_l_edge (T : Tx w K mg) (fd : FuncData) (F : FunD K "_law_edge" "_law_edge" (defArgs s_l_edge) (defBody s_l_edge) (defScope s_l_edge) [] [] (He.ga K "_law_edge") fd) : FnOk P w K mg base CX0 3 (He.ga K "_law_edge") fd ["well", "keys"] (spY (φ_edge K)) := by
  refine fnM F sc_l_edge (fun B vs L k h => by obtain ⟨_, _, _, _, _, rfl, _⟩ := h; rfl) (fun cdv A outer s H vs Q E B L e hz he hr S h => ?_)
  obtain ⟨bg, o, a, zs, n, rfl, rfl, hb, hz, hz0, hz1, hzk, k⟩ := h
  refine ⟨_, (pss_cons (ps_set (i := 2) sc_l_edge.nd rfl (.inl rfl) (pe_ix (ix_U (K := K) rfl (hu_of hr)) (pv 1) (pe_callO (ok_l_draw (K := K) T) hr (by rfl) (pa_cons (pv 0) (pa_cons (pe_callB (call_lenU (K := K) rfl) (by rfl) T.n_len (by decide +kernel) (pa_cons (pv 1) pa_nil)) pa_nil))) (fun _ _ => rfl)))
      (pss_one (ps_ret (pe_ix (ix_U (K := K) rfl (hu_of hr)) (pe_lst (pa_cons (pv 2) (pa_cons (pv 2) (pa_cons (pe_op (op_addU (K := K) rfl) (pv 2) pe_str) (pa_cons (pe_slice (sl_U (K := K) rfl) (pv 2) po_none (po_some (pe_un un_negU pe_int))) (pa_cons pe_str (pa_cons pe_str (pa_cons pe_str (pa_cons pe_str pa_nil))))))))) (pe_callO (ok_l_draw (K := K) T) hr (by rfl) (pa_cons (pv 0) (pa_cons pe_int pa_nil))) (fun _ _ => rfl))))), ?_⟩
  walk_at "yn"
  obtain ⟨zv, hzv, hzp⟩ := at_list_ref hz
  have hzl : zv.length = zs.length := hzp.length
  walk_at "yn"
  rw [hzl]
  refine y_drawN 0 S rfl hb (by omega) (by omega) (by omega) fun i o H i0 i1 hb S => ?_
  try simp only [List.set] at S
  walk_at "yn"
  refine y_ixC S hz (by omega) (by omega) fun v z hzi hv => ?_
  have e1 := at_str hv
  subst e1
  have hzz := hzk z (List.mem_of_getElem? hzi)
  have h1 := hzz.1.2
  walk_at "yn"
  refine y_addS (lenOk (by rw [show ("a" : Str).length = 1 from rfl]; omega)) ?_
  walk_at "yn"
  refine y_newI S fun q B1 H b1 hq _ S => ?_
  walk_at "yn"
  refine y_drawN 0 S rfl hb (by omega) (by omega) (by omega) fun j o H j0 j1 hb S => ?_
  try simp only [List.set] at S
  walk_at "yn"
  refine y_ixM (S.l (sqL hq)) (by omega) (by exact j1) fun v hv => ?_
  have : ∃ y, v = .str y := by
    simp only [List.mem_cons, List.not_mem_nil, or_false] at hv
    rcases hv with rfl | rfl | rfl | rfl | rfl | rfl | rfl | rfl <;> exact ⟨_, rfl⟩
  obtain ⟨y, rfl⟩ := this
  exact k _ _ B1 b1 (hb.mono (by omega)) _ S
theorem ok_l_edge (T : Tx w K mg) : Ok P w K mg base 3 "_law_edge" ["well", "keys"] (spY (φ_edge K)) :=
  Ok.of T.F_l_edge T.g_l_edge (fun _ _ _ _ _ _ us hl => match us, hl with | [_, _], _ => rfl) (fn_l_edge T)
def φ_begun (K : PySem.W.Frag) : Ph := fun B vs L k => ∃ (b : Addr) (o : HO) (x : SA) (s : AS) (U : List Str) (n m : Nat), vs = [.ref b, .ref x.st] ∧ L = (b, o) :: stL x s.base ∧ Bag (m + 3) o ∧ StOk K B x s ∧ AS.Ok U n s ∧ n ≤ 1000 ∧ Pos s ∧ ∀ t d o' B', Same B B' → At evC K B' (.ref t) (.begin d) → s.canB 1 (.begin d) = true → Bag m o' → k B' (.ref t) ((b, o') :: stL x s.base)
theorem odK_keys (os : List OD) : (odK os).map (·.1) = (os.map (·.d)).map Sum.inl := by
  unfold odK
  rw [List.map_map, List.map_map]
  rfl
theorem y_notInN {H : Hp} {Q : VK} {a : Addr} {i : Int} {ns : List Int} (h : SqL K H a (ns.map V.int)) (q : Q (.bl (!decide (i ∈ ns))) H) : rNotInZ K (.int i) (.ref a) H Q := by
  refine .inl (y_notInL h rfl flat_ints ?_)
  rw [inV_ints]
  exact q
theorem fn_l_begun (T : Tx w K mg) (fd : FuncData) (F : FunD K "_law_begun" "_law_begun" (defArgs s_l_begun) (defBody s_l_begun) (defScope s_l_begun) [] [] (He.ga K "_law_begun") fd) : FnOk P w K mg base CX0 3 (He.ga K "_law_begun") fd ["well", "state"] (spY (φ_begun K)) := by
  refine fnM F sc_l_begun (fun B vs L k h => by obtain ⟨_, _, _, _, _, _, _, rfl, _⟩ := h; rfl) (fun cdv A outer s H vs Q E B L e hz he hr S h => ?_)
  obtain ⟨bg, o, x, s1, U, n, m, rfl, rfl, hb, ok, aok, hn, hpos, k⟩ := h
  refine ⟨_, (pss_cons (ps_set (i := 2) sc_l_begun.nd rfl (.inl rfl) (pe_op (op_addZ (K := K) rfl) (pe_callB (call_sortedW (P := P) (w := w) (K := K) rfl rfl rfl rfl hr.units) (by rfl) T.n_sorted (by decide +kernel) (pa_cons (pe_ix (ix_U (K := K) rfl (hu_of hr)) (pv 1) pe_str (fun _ _ => rfl)) pa_nil)) (pe_lc (own := [("one", 5), ("writes", 6)]) (by rfl) sc_l_begun.nd (pi_listK (K := K) rfl (pe_ix (ix_U (K := K) rfl (hu_of hr)) (pv 1) pe_str (fun _ _ => rfl))) (blkOk_by (own := [("one", 5), ("writes", 6)]) (N := ["well", "state", "there", "number", "other", "one", "writes"]) (sc := defScope s_l_begun) (by decide +kernel)) (fun _ _ _ _ _ => (pg_tupK (K := K) (n := 2) rfl rfl (pgs_cons (pg_name (i := 5) sc_l_begun.nd rfl (.inl rfl)) (pgs_cons (pg_name (i := 6) sc_l_begun.nd rfl (.inl rfl)) pgs_nil)))) (fun _ _ _ _ _ => pts_nil) (fun _ _ _ _ _ => (pv 5)))))
      (pss_cons (ps_set (i := 3) sc_l_begun.nd rfl (.inl rfl) (pe_op (op_addZ (K := K) rfl) (pe_maxL (K := K) rfl (by rfl) rfl T.n_max (pv 2) hr.units) pe_int))
      (pss_cons (ps_set (i := 4) sc_l_begun.nd rfl (.inl rfl) (pe_ix (ix_U (K := K) rfl (hu_of hr)) (pe_lst (pa_cons (pv 3) (pa_cons (pv 3) (pa_cons (pe_op (op_addZ (K := K) rfl) pe_int (pe_callO (ok_l_draw (K := K) T) hr (by rfl) (pa_cons (pv 0) (pa_cons pe_int pa_nil)))) (pa_cons (pe_op (op_addZ (K := K) rfl) pe_int (pe_callO (ok_l_draw (K := K) T) hr (by rfl) (pa_cons (pv 0) (pa_cons (pe_op op_subU (pe_op op_powU pe_int pe_int) pe_int) pa_nil)))) pa_nil))))) (pe_callO (ok_l_draw (K := K) T) hr (by rfl) (pa_cons (pv 0) (pa_cons pe_int pa_nil))) (fun _ _ => rfl)))
      (pss_cons (ps_if (pt_cmpR (op_notInZ (K := K) rfl hr.units) (pv 4) (pv 2) (by rfl))
      (pss_one (ps_set (i := 3) sc_l_begun.nd rfl (.inl rfl) (pv 4)))
      pss_nil)
      (pss_one (ps_ret (pe_tup (pa_cons pe_str (pa_cons (pv 3) pa_nil))))))))), ?_⟩
  walk_at "yn"
  have hol := aok.ol
  have hkl := aok.kl
  have hkx : x.ks.length = s1.kept.length := by rw [ok.ks, List.length_map]
  have hox : x.os.length = s1.opn.length := by rw [ok.os, List.length_map]
  have hkvl : (kdV x.ks).length = x.ks.length := by unfold kdV; rw [List.length_map]
  refine y_sortDI (.inl (S.at 3 rfl)) (odK_keys x.os) fun ns hns _ => ?_
  refine y_newI S fun s0 B1 H b1 hs0 _ S => ?_
  walk_at "yn"
  refine y_lcRel (At .int K) at_up (walk_list (xs := kdV x.ks)) S (by omega) (fun i => x.ks[i]?.bind fun z => some z.d) (fun B3 H1 D acc b3 S1 => sqL (S1.at 3 rfl)) (fun i y B3 H1 H1' acc D Kp Kn hi b3 S hy kp kn => ?_) (fun B3 H acc D b3 hD hp3 S => ?_)
  · obtain ⟨rfl, e2⟩ := hy
    unfold kdV at e2
    rw [List.getElem?_map] at e2
    obtain ⟨q, hq, rfl⟩ := Option.map_eq_some_iff.mp e2
    have hqt := up_t (b1.trans b3) (ok.kt q (List.mem_of_getElem? hq))
    walk_at "yn"
    exact kp _ _ _ _ (by rw [hq]; rfl) (Same.refl _) .int S
  rw [hkvl, range_bind, fm_some] at hp3
  have e0 := ints_of hp3
  subst e0
  obtain ⟨B4, b4, hD4, S⟩ := S.frz 0 rfl hD
  try simp only [List.eraseIdx] at S
  walk_at "yn"
  refine z_catS (S.l (sqL (up_o (b3.trans b4) hs0))) (S.l (sqL hD4)) (lenOk (by rw [List.length_map, List.length_map, List.length_map, hns.length_eq, List.length_map]; omega)) ?_
  refine y_newI S fun th B5 H b5 hth _ S => ?_
  rw [← List.map_append] at hth
  have hmem : ∀ d, d ∈ ns ++ x.ks.map (·.d) ↔ d ∈ x.os.map (·.d) ∨ d ∈ x.ks.map (·.d) := fun d => by rw [List.mem_append, hns.mem_iff]
  have hgood : ∀ d, 0 < d → d ∉ ns ++ x.ks.map (·.d) → s1.canB 1 (.begin d) = true := fun d h0 h1 => by
    rw [hmem, not_or] at h1
    show (decide (0 < d) && (!(s1.find d).isSome && !(s1.kept.any fun p => decide (p.1 = d)))) = true
    have hf : s1.find d = none := by
      cases q : s1.find d with
      | none => rfl
      | some o =>
        obtain ⟨g1, g2⟩ := AS.find_mem q
        rw [ok.os] at g1
        obtain ⟨r, hr, rfl⟩ := List.mem_map.mp g1
        exact absurd (List.mem_map.mpr ⟨r, hr, g2⟩) h1.1
    have hk : (s1.kept.any fun p => decide (p.1 = d)) = false := by
      rw [List.any_eq_false]
      intro q hq hd
      rw [ok.ks] at hq
      obtain ⟨r, hr, rfl⟩ := List.mem_map.mp hq
      exact h1.2 (List.mem_map.mpr ⟨r, hr, of_decide_eq_true hd⟩)
    rw [decide_eq_true h0, hf, hk]
    rfl
  have hpz : ∀ d ∈ ns ++ x.ks.map (·.d), 0 < d := fun d hd => by
    rcases (hmem d).mp hd with hd | hd
    · obtain ⟨r, hr, rfl⟩ := List.mem_map.mp hd
      exact hpos.o r.op (by rw [ok.os]; exact List.mem_map.mpr ⟨r, hr, rfl⟩)
    · obtain ⟨r, hr, rfl⟩ := List.mem_map.mp hd
      exact hpos.k r.k (by rw [ok.ks]; exact List.mem_map.mpr ⟨r, hr, rfl⟩)
  generalize ns ++ x.ks.map (·.d) = l at hth hgood hpz
  walk_at "yn"
  refine y_maxLK (S.l (sqL hth)) fun mx hmx hge => ?_
  have hmx0 : 0 ≤ mx := by
    rcases hmx with h | h
    · omega
    · have := hpz mx h; omega
  have hmxn : mx + 1 ∉ l := fun h => by have := hge _ h; omega
  walk_at "yn"
  refine y_drawN 0 S rfl hb (by omega) (by omega) (by omega) fun i1 o H i10 i11 hb S => ?_
  try simp only [List.set] at S
  walk_at "yn"
  refine y_powI (pow_ok (b := 4) (by decide) (by decide) (by decide) (by decide) (by decide)) ?_
  rw [ten20]
  walk_at "yn"
  refine y_drawN 0 S rfl hb (by omega) (by omega) (by omega) fun i2 o H i20 i21 hb S => ?_
  try simp only [List.set] at S
  walk_at "yn"
  refine y_newI S fun q B6 H b6 hq _ S => ?_
  walk_at "yn"
  refine y_drawN 0 S rfl hb (by omega) (by omega) (by omega) fun i3 o H i30 i31 hb S => ?_
  try simp only [List.set] at S
  walk_at "yn"
  refine y_ixM (S.l (sqL hq)) (by omega) (by exact i31) fun v hv => ?_
  have hv2 : ∃ y, v = .int y ∧ 0 < y := by
    simp only [List.mem_cons, List.not_mem_nil, or_false] at hv
    rcases hv with rfl | rfl | rfl | rfl
    · exact ⟨_, rfl, by omega⟩
    · exact ⟨_, rfl, by omega⟩
    · exact ⟨_, rfl, by omega⟩
    · exact ⟨_, rfl, by omega⟩
  obtain ⟨y, rfl, hy0⟩ := hv2
  walk_at "yn"
  have bb : Same B B6 := b1.trans (b3.trans (b4.trans (b5.trans b6)))
  refine y_ifS ?_
  walk_at "yy"
  refine y_notInN (S.l (sqL (up_o b6 hth))) ?_
  walk_at "yy"
  refine y_iteN (fun c => ?_) (fun c => ?_)
  · walk_at "yy"
    refine y_newI S fun t B7 H b7 ht _ S => ?_
    exact k t y o B7 (bb.trans b7) (.tup (sqT ht) (.cons (.str _) (.cons (.int _) .nil))) (hgood y hy0 c) (hb.mono (by omega)) _ S
  · walk_at "yy"
    refine y_newI S fun t B7 H b7 ht _ S => ?_
    exact k t (mx + 1) o B7 (bb.trans b7) (.tup (sqT ht) (.cons (.str _) (.cons (.int _) .nil))) (hgood _ (by omega) hmxn) (hb.mono (by omega)) _ S
theorem ok_l_begun (T : Tx w K mg) : Ok P w K mg base 3 "_law_begun" ["well", "state"] (spY (φ_begun K)) :=
  Ok.of T.F_l_begun T.g_l_begun (fun _ _ _ _ _ _ us hl => match us, hl with | [_, _], _ => rfl) (fn_l_begun T)

def EvR (ev : Ev) : Prop := ∀ d lo hi rows, ev = .scan d lo hi rows → rows.length ≤ 100
theorem evR_other {ev : Ev} (h : ∀ d lo hi rows, ev ≠ .scan d lo hi rows) : EvR ev := fun d lo hi rows e => absurd e (h d lo hi rows)
theorem scanned_len {U : List Str} {n : Nat} {s : AS} {o : Op} {lo hi : Str} (h : AS.Ok U n s) (ho : o ∈ s.opn) : (s.scanned o lo hi).length ≤ U.length := by
  refine Nat.le_trans (List.length_filterMap_le _ _) ?_
  rw [(List.mergeSort_perm _ _).length_eq]
  refine nodup_le (uniq_nd _) fun z hz => ?_
  have hz := uniq_mem.mp hz
  unfold AS.keys at hz
  simp only [List.mem_append] at hz
  rcases hz with (hz | hz) | hz
  · obtain ⟨q, hq, rfl⟩ := List.mem_map.mp hz
    exact h.su q hq
  · obtain ⟨q, hq, rfl⟩ := List.mem_map.mp hz
    obtain ⟨r, hr, hq⟩ := List.mem_flatMap.mp hq
    exact h.ku r hr q hq
  · obtain ⟨q, hq, rfl⟩ := List.mem_map.mp hz
    exact h.wu o ho q hq
def φ_ldeed (K : PySem.W.Frag) : Ph := fun B vs L k => ∃ (b : Addr) (o : HO) (x : SA) (s : AS) (a : Addr) (zs : List Str) (n m : Nat) (fl : Int), vs = [.ref b, .ref x.st, .ref a, .int fl] ∧ L = (b, o) :: stL x s.base ∧ Bag (m + 20) o ∧ StOk K B x s ∧ AS.Ok zs n s ∧ n ≤ 900 ∧ Pos s ∧ At cS K B (.ref a) zs ∧ 0 < zs.length ∧ zs.length ≤ 20 ∧ (∀ z ∈ zs, KeyS z) ∧
  ∀ v ev o' B', Same B B' → At evC K B' v ev → s.canB 1 ev = true → EvOk zs ev ∧ EvR ev → evTag ev ≠ "raised" → (fl = 0 → evTag ev ≠ "fall") → Bag m o' → k B' v ((b, o') :: stL x s.base)
theorem evok_other {U : List Str} {ev : Ev} (h1 : ∀ n rows, ev ≠ .raised n rows) (h2 : ∀ d key w, ev ≠ .put d key w) (h3 : ∀ d key, ev ≠ .drop d key) : EvOk U ev := ⟨fun n rows e => absurd e (h1 n rows), fun d key w e => absurd e (h2 d key w), fun d key e => absurd e (h3 d key)⟩
theorem fn_l_deed (T : Tx w K mg) (fd : FuncData) (F : FunD K "_law_deed" "_law_deed" (defArgs s_l_deed) (defBody s_l_deed) (defScope s_l_deed) [] [] (He.ga K "_law_deed") fd) : FnOk P w K mg base CX0 4 (He.ga K "_law_deed") fd ["well", "state", "keys", "falls"] (spY (φ_ldeed K)) := by
  refine fnM F sc_l_deed (fun B vs L k h => by obtain ⟨_, _, _, _, _, _, _, _, _, rfl, _⟩ := h; rfl) (fun cdv A outer s H vs Q E B L e hz he hr S h => ?_)
  obtain ⟨bg, o, x, s1, ka, zs, n, m, fl, rfl, rfl, hb, ok, aok, hn, hpos, hka, hz0, hz1, hzk, k⟩ := h
  refine ⟨_, (pss_cons (ps_set (i := 4) sc_l_deed.nd rfl (.inl rfl) (pe_lst (pa_cons pe_str (pa_cons pe_str (pa_cons pe_str (pa_cons pe_str (pa_cons pe_str (pa_cons pe_str (pa_cons pe_str (pa_cons pe_str (pa_cons pe_str (pa_cons pe_str (pa_cons pe_str (pa_cons pe_str (pa_cons pe_str pa_nil)))))))))))))))
      (pss_cons (ps_if (pt_cmpR (op_eqZ (K := K) rfl hr.units) (pv 3) pe_int (nomark _))
      (pss_one (ps_expr (pe_bmK (K := K) (id := "list.append") rfl (pe_bm PySem.F.plainAttrs_list PySem.F.slot_list_append PySem.F.type_list_append mt_append (pv 4) (pa_cons pe_str pa_nil)))))
      pss_nil)
      (pss_cons (ps_set (i := 5) sc_l_deed.nd rfl (.inl rfl) (pe_ix (ix_U (K := K) rfl (hu_of hr)) (pv 4) (pe_callO (ok_l_draw (K := K) T) (hr.mono (by decide)) (by rfl) (pa_cons (pv 0) (pa_cons (pe_callB (call_lenU (K := K) rfl) (by rfl) T.n_len (by decide +kernel) (pa_cons (pv 4) pa_nil)) pa_nil))) (fun _ _ => rfl)))
      (pss_cons (ps_if (pt_cmpR (op_eqZ (K := K) rfl hr.units) (pv 5) pe_str (nomark _))
      (pss_one (ps_ret (pe_tup (pa_cons (pv 5) (pa_cons (pe_op (op_addU (K := K) rfl) (pe_ix (ix_U (K := K) rfl (hu_of hr)) (pv 1) pe_str (fun _ _ => rfl)) (pe_callO (ok_l_draw (K := K) T) (hr.mono (by decide)) (by rfl) (pa_cons (pv 0) (pa_cons (pe_op (op_addU (K := K) rfl) (pe_callB (call_lenU (K := K) rfl) (by rfl) T.n_len (by decide +kernel) (pa_cons (pe_ix (ix_U (K := K) rfl (hu_of hr)) (pv 1) pe_str (fun _ _ => rfl)) pa_nil)) pe_int) pa_nil)))) pa_nil)))))
      pss_nil)
      (pss_cons (ps_if (PW.pt (pw_or (PW.pt (pw_and (pt_cmpR (op_eqZ (K := K) rfl hr.units) (pv 5) pe_str (nomark _)) (pw_and1 (pt_cmpR op_ltU (pe_callB (call_lenU (K := K) rfl) (by rfl) T.n_len (by decide +kernel) (pa_cons (pe_ix (ix_U (K := K) rfl (hu_of hr)) (pv 1) pe_str (fun _ _ => rfl)) pa_nil)) pe_int (nomark _))))) (pw_or1 (pt_cmpR (op_eqDE hr.units) (pe_ix (ix_U (K := K) rfl (hu_of hr)) (pv 1) pe_str (fun _ _ => rfl)) pe_dnewK (nomark _)))))
      (pss_one (ps_ret (pe_callO (ok_l_begun (K := K) T) hr (by rfl) (pa_cons (pv 0) (pa_cons (pv 1) pa_nil)))))
      pss_nil)
      (pss_cons (ps_set (i := 6) sc_l_deed.nd rfl (.inl rfl) (pe_ix (ix_U (K := K) rfl (hu_of hr)) (pe_callB (call_sortedW (P := P) (w := w) (K := K) rfl rfl rfl rfl hr.units) (by rfl) T.n_sorted (by decide +kernel) (pa_cons (pe_ix (ix_U (K := K) rfl (hu_of hr)) (pv 1) pe_str (fun _ _ => rfl)) pa_nil)) (pe_callO (ok_l_draw (K := K) T) (hr.mono (by decide)) (by rfl) (pa_cons (pv 0) (pa_cons (pe_callB (call_lenU (K := K) rfl) (by rfl) T.n_len (by decide +kernel) (pa_cons (pe_ix (ix_U (K := K) rfl (hu_of hr)) (pv 1) pe_str (fun _ _ => rfl)) pa_nil)) pa_nil))) (fun _ _ => rfl)))
      (pss_cons (ps_set (i := 7) sc_l_deed.nd rfl (.inl rfl) (pe_ix (ix_U (K := K) rfl (hu_of hr)) (pv 2) (pe_callO (ok_l_draw (K := K) T) (hr.mono (by decide)) (by rfl) (pa_cons (pv 0) (pa_cons (pe_callB (call_lenU (K := K) rfl) (by rfl) T.n_len (by decide +kernel) (pa_cons (pv 2) pa_nil)) pa_nil))) (fun _ _ => rfl)))
      (pss_cons (ps_set (i := 8) sc_l_deed.nd rfl (.inl rfl) (pe_callB (call_lenU (K := K) rfl) (by rfl) T.n_len (by decide +kernel) (pa_cons (pe_ix (ix_U (K := K) rfl (hu_of hr)) (pe_ix (ix_U (K := K) rfl (hu_of hr)) (pe_ix (ix_U (K := K) rfl (hu_of hr)) (pv 1) pe_str (fun _ _ => rfl)) (pv 6) (fun _ _ => rfl)) pe_int (fun _ _ => rfl)) pa_nil)))
      (pss_cons (ps_if (PW.pt (pw_and (pt_cmpR (op_eqZ (K := K) rfl hr.units) (pv 5) pe_str (nomark _)) (pw_and1 (pt_val (pe_callO (ok_l_free (K := K) T) (hr.mono (by decide)) (by rfl) (pa_cons (pv 1) (pa_cons (pv 6) (pa_cons (pv 7) pa_nil))))))))
      (pss_one (ps_ret (pe_tup (pa_cons (pv 5) (pa_cons (pv 6) (pa_cons (pv 7) (pa_cons (pe_callO (ok_l_worth (K := K) T) hr (by rfl) (pa_cons (pv 0) pa_nil)) pa_nil)))))))
      pss_nil)
      (pss_cons (ps_if (PW.pt (pw_and (pt_cmpR (op_eqZ (K := K) rfl hr.units) (pv 5) pe_str (nomark _)) (pw_and1 (pt_val (pe_callO (ok_l_deed_can (K := K) T) hr (by rfl) (pa_cons (pv 1) (pa_cons (pe_tup (pa_cons (pv 5) (pa_cons (pv 6) (pa_cons (pv 7) pa_nil)))) pa_nil)))))))
      (pss_one (ps_ret (pe_tup (pa_cons (pv 5) (pa_cons (pv 6) (pa_cons (pv 7) pa_nil))))))
      pss_nil)
      (pss_cons (ps_if (pt_cmpR (op_eqZ (K := K) rfl hr.units) (pv 5) pe_str (nomark _))
      (pss_one (ps_ret (pe_tup (pa_cons (pv 5) (pa_cons (pv 6) (pa_cons (pe_callO (ok_l_draw (K := K) T) (hr.mono (by decide)) (by rfl) (pa_cons (pv 0) (pa_cons (pe_op (op_addU (K := K) rfl) (pv 8) pe_int) pa_nil))) pa_nil))))))
      pss_nil)
      (pss_cons (ps_if (pt_cmpR (op_eqZ (K := K) rfl hr.units) (pv 5) pe_str (nomark _))
      (pss_one (ps_ret (pe_tup (pa_cons (pv 5) (pa_cons (pv 6) (pa_cons (pv 8) pa_nil))))))
      pss_nil)
      (pss_cons (ps_if (pt_cmpR (op_eqZ (K := K) rfl hr.units) (pv 5) pe_str (nomark _))
      (pss_one (ps_ret (pe_tup (pa_cons (pv 5) (pa_cons (pv 6) (pa_cons (pe_op (op_addU (K := K) rfl) (pe_callO (ok_l_places (K := K) T) (hr.mono (by decide)) (by rfl) (pa_cons (pv 1) pa_nil)) pe_int) pa_nil))))))
      pss_nil)
      (pss_cons (ps_if (pt_cmpR (op_eqZ (K := K) rfl hr.units) (pv 5) pe_str (nomark _))
      (pss_one (ps_ret (pe_tup (pa_cons (pv 5) (pa_cons (pv 6) pa_nil)))))
      pss_nil)
      (pss_cons (ps_if (pt_cmpR (op_eqZ (K := K) rfl hr.units) (pv 5) pe_str (nomark _))
      (pss_cons (ps_set (i := 9) sc_l_deed.nd rfl (.inl rfl) (pe_callO (ok_l_edge (K := K) T) hr (by rfl) (pa_cons (pv 0) (pa_cons (pv 2) pa_nil))))
      (pss_cons (ps_set (i := 10) sc_l_deed.nd rfl (.inl rfl) (pe_callO (ok_l_edge (K := K) T) hr (by rfl) (pa_cons (pv 0) (pa_cons (pv 2) pa_nil))))
      (pss_one (ps_ret (pe_tup (pa_cons (pv 5) (pa_cons (pv 6) (pa_cons (pv 9) (pa_cons (pv 10) (pa_cons (pe_callO (ok_l_scanned (K := K) T) (hr.mono (by decide)) (by rfl) (pa_cons (pv 1) (pa_cons (pv 6) (pa_cons (pv 9) (pa_cons (pv 10) pa_nil))))) pa_nil))))))))))
      pss_nil)
      (pss_one (ps_ret (pe_tup (pa_cons pe_str (pa_cons (pv 6) (pa_cons (pv 7) (pa_cons (pe_callO (ok_l_sees (K := K) T) (hr.mono (by decide)) (by rfl) (pa_cons (pv 1) (pa_cons (pv 6) (pa_cons (pv 7) pa_nil)))) pa_nil)))))))))))))))))))))), ?_⟩
  walk_at "yn"
  obtain ⟨zv, hzv, hzp⟩ := at_list_ref hka
  have hzvl : zv.length = zs.length := hzp.length
  have hol := aok.ol
  have hkl := aok.kl
  have hul : zs.length ≤ 100 := by omega
  have hkx : x.ks.length = s1.kept.length := by rw [ok.ks, List.length_map]
  have hox : x.os.length = s1.opn.length := by rw [ok.os, List.length_map]
  have hodl : (odK x.os).length = x.os.length := by unfold odK; rw [List.length_map]
  have hkvl : (kdV x.ks).length = x.ks.length := by unfold kdV; rw [List.length_map]
  refine y_newM S fun wl H hwl0 S => ?_
  walk_at "yn"
  refine y_cutS (R := fun σ H => ∃ (ws : List Str), (∃ (y5 y6 y7 y8 y9 y10 : Option V), σ = [some (.ref bg), some (.ref x.st), some (.ref ka), some (.int fl), some (.ref wl), y5, y6, y7, y8, y9, y10]) ∧ 0 < ws.length ∧ ws.length ≤ 14 ∧ (fl = 0 → ("fall" : Str) ∉ ws) ∧ Sy e B H ((wl, .lst (ws.map V.str)) :: (bg, o) :: stL x s1.base)) (fun nx' hnx => ?_) (fun σ H hR => ?_)
  · refine y_ifS ?_
    walk_at "yy"
    refine y_iteI (fun c => ?_) (fun c => ?_)
    · walk_at "yy"
      refine y_app 0 S rfl (lenLt (by decide)) fun H S => ?_
      try simp only [List.set] at S
      walk_at "yy"
      exact hnx _ _ ⟨["read", "read", "scan", "put", "put", "put", "drop", "back", "mark", "keep", "keep", "undo", "begin", "fall"], ⟨_, _, _, _, _, _, rfl⟩, by decide, by decide, fun z => absurd z (by omega), S⟩
    · walk_at "yy"
      exact hnx _ _ ⟨["read", "read", "scan", "put", "put", "put", "drop", "back", "mark", "keep", "keep", "undo", "begin"], ⟨_, _, _, _, _, _, rfl⟩, by decide, by decide, fun _ => by decide, S⟩
  clear S
  obtain ⟨ws, ⟨y5, y6, y7, y8, y9, y10, rfl⟩, hw0, hw1, hwf, S⟩ := hR
  walk_at "yn"
  rw [List.length_map]
  refine y_drawN 1 S rfl hb (by omega) (by omega) (by omega) fun wi o H wi0 wi1 hb S => ?_
  try simp only [List.set] at S
  walk_at "yn"
  refine y_ixM (sqL (S.at 0 rfl)) (by omega) (by rw [List.length_map]; omega) fun v hv => ?_
  obtain ⟨word, hword, rfl⟩ := List.mem_map.mp hv
  replace S := S.tail
  walk_at "yn"
  refine y_ifS ?_
  walk_at "yy"
  refine y_iteS (fun c => ?_) (fun c => ?_)
  · subst c
    walk_at "yy"
    rw [hkvl]
    refine y_drawN 0 S rfl hb (by omega) (by omega) (by omega) fun fi o H fi0 fi1 hb S => ?_
    try simp only [List.set] at S
    walk_at "yn"
    refine y_newI S fun t B1 H b1 ht _ S => ?_
    refine k (.ref t) (.fall (s1.base + fi)) o B1 b1 (.tup (sqT ht) (.cons (.str _) (.cons (.int _) .nil))) ?_ ⟨evok_other (by intros; simp) (by intros; simp) (by intros; simp), evR_other (by intros; simp)⟩ (by simp only [evTag]; decide) (fun z => absurd hword (hwf z)) (hb.mono (by omega)) _ S
    show (decide (s1.base ≤ s1.base + fi) && decide (s1.base + fi ≤ s1.base + (s1.kept.length : Nat))) = true
    rw [decide_eq_true (by omega), decide_eq_true (by omega)]
    rfl
  clear c
  walk_at "yn"
  refine y_ifS ?_
  refine y_cutT (R := fun b H => (b = false → 0 < x.os.length) ∧ Sy e B H ((bg, o) :: stL x s1.base)) (fun Q' hQ => ?_) (fun bc H hR => ?_)
  · have hrest : ∀ H, Sy e B H ((bg, o) :: stL x s1.base) → ∀ (q0 : Addr) H2, Sy e B H2 ((q0, .dK []) :: (bg, o) :: stL x s1.base) → Q' (odK x.os).isEmpty H2 := fun H S q0 H2 S2 => by
      refine hQ _ _ ⟨fun h => ?_, S2.tail⟩
      have : odK x.os ≠ [] := fun z => by rw [z] at h; cases h
      have := List.length_pos_iff.mpr this
      omega
    walk_at "yy"
    refine y_iteS (fun c => ?_) (fun c => ?_)
    · walk_at "yy"
      refine y_lenD (.inl (S.at 3 rfl)) ?_
      walk_at "yy"
      refine y_ite (fun c2 => ?_) (fun c2 => ?_)
      · walk_at "yy"
        exact hQ _ _ ⟨fun h => (by cases h), S⟩
      · walk_at "yy"
        refine y_newM S fun q0 H hq0 S2 => ?_
        refine ⟨x.ao, q0, _, rfl, rfl, .inl (S2.at 4 rfl), S2.at 0 rfl, ?_⟩
        walk_at "yy"
        exact hrest _ S q0 _ S2
    · walk_at "yy"
      refine y_newM S fun q0 H hq0 S2 => ?_
      refine ⟨x.ao, q0, _, rfl, rfl, .inl (S2.at 4 rfl), S2.at 0 rfl, ?_⟩
      walk_at "yy"
      exact hrest _ S q0 _ S2
  clear S
  obtain ⟨hos, S⟩ := hR
  refine y_iteB (fun hb1 => ?_) (fun hb1 => ?_)
  · walk_at "yy"
    refine y_spG (L := (bg, o) :: stL x s1.base) (R := []) (by rw [List.append_nil]; exact S) ⟨bg, o, x, s1, zs, n, m + 1, rfl, rfl, hb.mono (by omega), ok, aok, by omega, hpos, fun t d o B1 b1 hev hc hb H T => ?_⟩
    obtain ⟨-, S, -⟩ := Sy.backG (R := []) (by rw [List.append_nil]; exact S) T
    rw [List.append_nil] at S
    exact k (.ref t) (.begin d) o B1 b1 hev hc ⟨evok_other (by intros; simp) (by intros; simp) (by intros; simp), evR_other (by intros; simp)⟩ (by simp only [evTag]; decide) (fun _ => by simp only [evTag]; decide) (hb.mono (by omega)) _ S
  have hos := hos hb1
  clear hb1
  walk_at "yy"
  refine y_sortDI (.inl (S.at 3 rfl)) (odK_keys x.os) fun ns hns _ => ?_
  refine y_newI S fun s0 B1 H b1 hs0 _ S => ?_
  walk_at "yy"
  refine y_lenD (.inl (S.at 3 rfl)) ?_
  rw [hodl]
  walk_at "yy"
  have hnl : ns.length = x.os.length := by rw [hns.length_eq, List.length_map]
  refine y_drawN 0 S rfl hb (by omega) (by omega) (by omega) fun di o H di0 di1 hb S => ?_
  try simp only [List.set] at S
  walk_at "yn"
  refine y_ixM (S.l (sqL hs0)) (by omega) (by rw [List.length_map]; omega) fun v hv => ?_
  obtain ⟨d0, hd0, rfl⟩ := List.mem_map.mp hv
  obtain ⟨p, hp, rfl⟩ := List.mem_map.mp (hns.mem_iff.mp hd0)
  walk_at "yn"
  rw [hzvl]
  refine y_drawN 0 S rfl hb (by omega) (by omega) (by omega) fun ki o H ki0 ki1 hb S => ?_
  try simp only [List.set] at S
  walk_at "yn"
  refine y_ixC S (hka.up b1) (by omega) (by omega) fun v key hkey hv => ?_
  have e1 := at_str hv
  subst e1
  have hkm := List.mem_of_getElem? hkey
  have hpt := up_t b1 (ok.ot p hp)
  have hvl : p.vs.length = p.ws.length := (ok.ow p hp).length
  have hpl := stL_o (x := x) (b := s1.base) hp
  have hfp := ok.findP aok hp
  have hpn : p.ws.length ≤ n := aok.wl p.op (by rw [ok.os]; exact List.mem_map.mpr ⟨p, hp, rfl⟩)
  walk_at "yn"
  refine y_ixD (k := .inl p.d) (.inl (S.at 3 rfl)) rfl (odK_val (os_nd ok aok) hp) ?_
  walk_at "yn"
  rw [hvl]
  have hcan : ∀ ev, IsDeed ev → evWho ev = p.d → s1.canB 1 ev = s1.deedB p.op ev := fun ev h1 h2 => by rw [h1.can, h2, hfp]
  clear hv hd0 hns hnl hs0 hkey hka
  -- put
  refine y_ifS ?_
  refine y_cutT (R := fun b H => (b = true → word = "put" ∧ s1.free p.op key = true) ∧ ∃ B2, Same B1 B2 ∧ Sy e B2 H ((bg, o) :: stL x s1.base)) (fun Q' hQ => ?_) (fun bc H hR => ?_)
  · walk_at "yy"
    refine y_iteS (fun c => ?_) (fun c => ?_)
    · walk_at "yy"
      replace S := S.perm (List.perm_append_comm (l₁ := [(bg, o)]) (l₂ := stL x s1.base))
      refine y_spG (L := stL x s1.base) (R := [(bg, o)]) S ⟨x, s1, zs, n, p, key, rfl, rfl, ok.up b1, aok, by omega, hp, fun B2 b2 H T => ?_⟩
      obtain ⟨-, S, -⟩ := S.backG T
      clear T
      replace S := S.perm (List.perm_append_comm (l₂ := [(bg, o)]) (l₁ := stL x s1.base))
      walk_at "yy"
      exact hQ _ _ ⟨fun h => ⟨c, h⟩, B2, b2, S⟩
    · walk_at "yy"
      exact hQ _ _ ⟨fun h => (by cases h), B1, Same.refl _, S⟩
  clear S
  obtain ⟨hbc, B2, b2, S⟩ := hR
  refine y_iteB (fun hb1 => ?_) (fun hb1 => ?_)
  · obtain ⟨rfl, hfr⟩ := hbc hb1
    walk_at "yy"
    refine y_spN 0 S rfl ⟨bg, o, m, rfl, rfl, hb.mono (by omega), fun w0 o B3 b3 hb H T => ?_⟩
    replace S := S.backN1 0 rfl T
    clear T
    try simp only [List.set] at S
    walk_at "yn"
    refine y_newI S fun t B4 H b4 ht _ S => ?_
    exact k (.ref t) (.put p.d key w0) o B4 (b1.trans (b2.trans (b3.trans b4))) (.tup (sqT ht) (.cons (.str _) (.cons (.int _) (.cons (.str _) (.cons (.int _) .nil))))) (by rw [hcan _ ⟨by simp only [evTag]; decide, by simp only [evTag]; decide, by simp only [evTag]; decide⟩ rfl]; exact hfr) ⟨⟨(by intro _ _ z; cases z), fun d key' w z => (by cases z; exact hkm), (by intro _ _ z; cases z)⟩, evR_other (by intros; simp)⟩ (by simp only [evTag]; decide) (fun _ => by simp only [evTag]; decide) (hb.mono (by omega)) _ S
  clear hbc hb1 bc
  -- drop
  walk_at "yn"
  refine y_ifS ?_
  refine y_cutT (R := fun b H => (b = true → word = "drop" ∧ s1.deedB p.op (.drop p.d key) = true) ∧ ∃ B3, Same B2 B3 ∧ Sy e B3 H ((bg, o) :: stL x s1.base)) (fun Q' hQ => ?_) (fun bc H hR => ?_)
  · walk_at "yy"
    refine y_iteS (fun c => ?_) (fun c => ?_)
    · subst c
      walk_at "yy"
      refine y_newI S fun t B3 H b3 ht _ S => ?_
      walk_at "yy"
      replace S := S.perm (List.perm_append_comm (l₁ := [(bg, o)]) (l₂ := stL x s1.base))
      refine y_spG (L := stL x s1.base) (R := [(bg, o)]) S ⟨x, s1, zs, n, p, .ref t, .drop p.d key, rfl, rfl, .tup (sqT ht) (.cons (.str _) (.cons (.int _) (.cons (.str _) .nil))), ⟨by simp only [evTag]; decide, by simp only [evTag]; decide, by simp only [evTag]; decide⟩, ok.up (b1.trans (b2.trans b3)), aok, by omega, hul, hp, rfl, fun B4 b4 H T => ?_⟩
      obtain ⟨-, S, -⟩ := S.backG T
      clear T
      replace S := S.perm (List.perm_append_comm (l₂ := [(bg, o)]) (l₁ := stL x s1.base))
      walk_at "yy"
      exact hQ _ _ ⟨fun h => ⟨rfl, h⟩, B4, b3.trans b4, S⟩
    · walk_at "yy"
      exact hQ _ _ ⟨fun h => (by cases h), B2, Same.refl _, S⟩
  clear S
  obtain ⟨hbc, B3, b3, S⟩ := hR
  refine y_iteB (fun hb1 => ?_) (fun hb1 => ?_)
  · obtain ⟨rfl, hfr⟩ := hbc hb1
    walk_at "yy"
    refine y_newI S fun t B4 H b4 ht _ S => ?_
    exact k (.ref t) (.drop p.d key) o B4 (b1.trans (b2.trans (b3.trans b4))) (.tup (sqT ht) (.cons (.str _) (.cons (.int _) (.cons (.str _) .nil)))) (by rw [hcan _ ⟨by simp only [evTag]; decide, by simp only [evTag]; decide, by simp only [evTag]; decide⟩ rfl]; exact hfr) ⟨⟨(by intro _ _ z; cases z), (by intro _ _ _ z; cases z), fun d key' z => (by cases z; exact hkm)⟩, evR_other (by intros; simp)⟩ (by simp only [evTag]; decide) (fun _ => by simp only [evTag]; decide) (hb.mono (by omega)) _ S
  clear hbc hb1 bc
  have bb : Same B B3 := b1.trans (b2.trans b3)
  have ok3 := ok.up bb
  -- back
  walk_at "yy"
  refine y_iteS (fun c => ?_) (fun c => ?_)
  · subst c
    walk_at "yy"
    refine y_drawN 0 S rfl hb (by omega) (by omega) (by omega) fun i o H i0 i1 hb S => ?_
    try simp only [List.set] at S
    walk_at "yn"
    refine y_newI S fun t B4 H b4 ht _ S => ?_
    refine k (.ref t) (.back p.d i) o B4 (bb.trans b4) (.tup (sqT ht) (.cons (.str _) (.cons (.int _) (.cons (.int _) .nil)))) ?_ ⟨evok_other (by intros; simp) (by intros; simp) (by intros; simp), evR_other (by intros; simp)⟩ (by simp only [evTag]; decide) (fun _ => by simp only [evTag]; decide) (hb.mono (by omega)) _ S
    rw [hcan _ ⟨by simp only [evTag]; decide, by simp only [evTag]; decide, by simp only [evTag]; decide⟩ rfl]
    show (decide (0 ≤ i) && decide (i ≤ (p.ws.length : Nat))) = true
    rw [decide_eq_true (by omega), decide_eq_true (by omega)]
    rfl
  clear c
  -- mark
  walk_at "yy"
  refine y_iteS (fun c => ?_) (fun c => ?_)
  · subst c
    walk_at "yy"
    refine y_newI S fun t B4 H b4 ht _ S => ?_
    refine k (.ref t) (.mark p.d (p.ws.length : Nat)) o B4 (bb.trans b4) (.tup (sqT ht) (.cons (.str _) (.cons (.int _) (.cons (.int _) .nil)))) ?_ ⟨evok_other (by intros; simp) (by intros; simp) (by intros; simp), evR_other (by intros; simp)⟩ (by simp only [evTag]; decide) (fun _ => by simp only [evTag]; decide) (hb.mono (by omega)) _ S
    rw [hcan _ ⟨by simp only [evTag]; decide, by simp only [evTag]; decide, by simp only [evTag]; decide⟩ rfl]
    exact decide_eq_true rfl
  clear c
  -- keep
  walk_at "yy"
  refine y_iteS (fun c => ?_) (fun c => ?_)
  · subst c
    walk_at "yy"
    replace S := S.perm (List.perm_append_comm (l₁ := [(bg, o)]) (l₂ := stL x s1.base))
    refine y_spG (L := stL x s1.base) (R := [(bg, o)]) S ⟨x, s1, rfl, rfl, ok3, fun H T => ?_⟩
    obtain ⟨-, S, -⟩ := S.backG T
    clear T
    replace S := S.perm (List.perm_append_comm (l₂ := [(bg, o)]) (l₁ := stL x s1.base))
    walk_at "yy"
    refine y_newI S fun t B4 H b4 ht _ S => ?_
    refine k (.ref t) (.keep p.d (s1.places + 1)) o B4 (bb.trans b4) (.tup (sqT ht) (.cons (.str _) (.cons (.int _) (.cons (.int _) .nil)))) ?_ ⟨evok_other (by intros; simp) (by intros; simp) (by intros; simp), evR_other (by intros; simp)⟩ (by simp only [evTag]; decide) (fun _ => by simp only [evTag]; decide) (hb.mono (by omega)) _ S
    rw [hcan _ ⟨by simp only [evTag]; decide, by simp only [evTag]; decide, by simp only [evTag]; decide⟩ rfl]
    exact decide_eq_true rfl
  clear c
  -- undo
  walk_at "yy"
  refine y_iteS (fun c => ?_) (fun c => ?_)
  · subst c
    walk_at "yy"
    refine y_newI S fun t B4 H b4 ht _ S => ?_
    refine k (.ref t) (.undo p.d) o B4 (bb.trans b4) (.tup (sqT ht) (.cons (.str _) (.cons (.int _) .nil))) ?_ ⟨evok_other (by intros; simp) (by intros; simp) (by intros; simp), evR_other (by intros; simp)⟩ (by simp only [evTag]; decide) (fun _ => by simp only [evTag]; decide) (hb.mono (by omega)) _ S
    rw [hcan _ ⟨by simp only [evTag]; decide, by simp only [evTag]; decide, by simp only [evTag]; decide⟩ rfl]
    rfl
  clear c
  have hka3 : At cS K B3 (.ref ka) zs := .list (up_l bb hzv) (pr_up at_up bb hzp)
  -- scan
  walk_at "yy"
  refine y_iteS (fun c => ?_) (fun c => ?_)
  · subst c
    walk_at "yy"
    refine y_spN 0 S rfl ⟨bg, o, ka, zs, m + 2, rfl, rfl, hb.mono (by omega), hka3, hz0, hz1, hzk, fun lo o B4 b4 hb H T => ?_⟩
    replace S := S.backN1 0 rfl T
    clear T
    try simp only [List.set] at S
    walk_at "yn"
    refine y_spN 0 S rfl ⟨bg, o, ka, zs, m, rfl, rfl, hb.mono (by omega), hka3.up b4, hz0, hz1, hzk, fun hi o B5 b5 hb H T => ?_⟩
    replace S := S.backN1 0 rfl T
    clear T
    try simp only [List.set] at S
    walk_at "yn"
    replace S := S.perm (List.perm_append_comm (l₁ := [(bg, o)]) (l₂ := stL x s1.base))
    refine y_spG (L := stL x s1.base) (R := [(bg, o)]) S ⟨x, s1, zs, n, p, lo, hi, rfl, rfl, ok3.up (b4.trans b5), aok, by omega, hul, hp, fun sa B6 b6 hsa _ H T => ?_⟩
    obtain ⟨-, S, -⟩ := S.backG T
    clear T
    replace S := S.perm (List.perm_append_comm (l₂ := [(bg, o)]) (l₁ := stL x s1.base))
    walk_at "yy"
    refine y_newI S fun t B7 H b7 ht _ S => ?_
    refine k (.ref t) (.scan p.d lo hi (s1.scanned p.op lo hi)) o B7 (bb.trans (b4.trans (b5.trans (b6.trans b7)))) (.tup (sqT ht) (.cons (.str _) (.cons (.int _) (.cons (.str _) (.cons (.str _) (.cons (hsa.up b7) .nil)))))) ?_ ⟨evok_other (by intros; simp) (by intros; simp) (by intros; simp), fun d' lo' hi' rows z => by cases z; exact Nat.le_trans (scanned_len aok (by rw [ok.os]; exact List.mem_map.mpr ⟨p, hp, rfl⟩)) hul⟩ (by simp only [evTag]; decide) (fun _ => by simp only [evTag]; decide) (hb.mono (by omega)) _ S
    rw [hcan _ ⟨by simp only [evTag]; decide, by simp only [evTag]; decide, by simp only [evTag]; decide⟩ rfl]
    exact decide_eq_true rfl
  -- read
  walk_at "yy"
  replace S := S.perm (List.perm_append_comm (l₁ := [(bg, o)]) (l₂ := stL x s1.base))
  refine y_spG (L := stL x s1.base) (R := [(bg, o)]) S ⟨x, s1, zs, n, p, key, rfl, rfl, ok3, aok, by omega, hp, fun B4 b4 H T => ?_⟩
  obtain ⟨-, S, -⟩ := S.backG T
  clear T
  replace S := S.perm (List.perm_append_comm (l₂ := [(bg, o)]) (l₁ := stL x s1.base))
  walk_at "yy"
  refine y_newI S fun t B5 H b5 ht _ S => ?_
  refine k (.ref t) (.read p.d key (s1.sees p.op key)) o B5 (bb.trans (b4.trans b5)) (.tup (sqT ht) (.cons (.str _) (.cons (.int _) (.cons (.str _) (.cons (atOptI _) .nil))))) ?_ ⟨evok_other (by intros; simp) (by intros; simp) (by intros; simp), evR_other (by intros; simp)⟩ (by simp only [evTag]; decide) (fun _ => by simp only [evTag]; decide) (hb.mono (by omega)) _ S
  rw [hcan _ ⟨by simp only [evTag]; decide, by simp only [evTag]; decide, by simp only [evTag]; decide⟩ rfl]
  exact decide_eq_true rfl
theorem ok_l_deed (T : Tx w K mg) : Ok P w K mg base 4 "_law_deed" ["well", "state", "keys", "falls"] (spY (φ_ldeed K)) :=
  Ok.of T.F_l_deed T.g_l_deed (fun _ _ _ _ _ _ us hl => match us, hl with | [_, _, _, _], _ => rfl) (fn_l_deed T)

theorem pe_callO0 {X : Cx} {k : Nat} {x : Str} {ps : List Str} {sp : Sp} {p pos : PySem.Pos} (O : Ok X.prog X.w X.K X.mg X.base k x ps sp) (hr : Room k X.A) (hg : Gl X x) (hdb : (x == ("__debug__" : Str)) = false := by decide) : PE X (.Call (.Name x p) [] [] pos) (tCall sp [] E0 tNil) := by
  obtain ⟨f, fd, h1, h2, h3, h4⟩ := O
  exact pe_call0 h4 hr hg h1 h2 h3 .nil pass0 hdb
def φ_raised (K : PySem.W.Frag) : Ph := fun B vs L k => ∃ (b : Addr) (o : HO) (a : Addr) (zs : List Str) (n : Nat), vs = [.ref b, .ref a] ∧ L = [(b, o)] ∧ Bag (n + 200) o ∧ At cS K B (.ref a) zs ∧ zs.length ≤ 20 ∧ zs.Nodup ∧ ∀ t m rows o' B', Same B B' → At evC K B' (.ref t) (.raised m rows) → 0 ≤ m → (rows.map (·.1)).Nodup → (∀ p ∈ rows, p.1 ∈ zs) → Bag n o' → k B' (.ref t) [(b, o')]
theorem fn_l_raised (T : Tx w K mg) (fd : FuncData) (F : FunD K "_law_raised" "_law_raised" (defArgs s_l_raised) (defBody s_l_raised) (defScope s_l_raised) [] [] (He.ga K "_law_raised") fd) : FnOk P w K mg base CX0 4 (He.ga K "_law_raised") fd ["well", "keys"] (spY (φ_raised K)) := by
  refine fnM F sc_l_raised (fun B vs L k h => by obtain ⟨_, _, _, _, _, rfl, _⟩ := h; rfl) (fun cdv A outer s H vs Q E B L e hz he hr S h => ?_)
  obtain ⟨bg, o, a, zs, n, rfl, rfl, hb, hza, hzl, hnd, k⟩ := h
  refine ⟨_, (pss_cons (ps_set (i := 2) sc_l_raised.nd rfl (.inl rfl) (pe_lst pa_nil))
      (pss_cons (ps_for PassesOwn.never rfl (pi_listK (K := K) rfl (pe_callB (call_sortedW (P := P) (w := w) (K := K) rfl rfl rfl rfl hr.units) (by rfl) T.n_sorted (by decide +kernel) (pa_cons (pv 1) pa_nil))) (pg_name (i := 3) sc_l_raised.nd rfl (.inl rfl))
      (pss_one (ps_if (pt_cmpR (op_eqZ (K := K) rfl hr.units) (pe_callO (ok_l_draw (K := K) T) (hr.mono (by decide)) (by rfl) (pa_cons (pv 0) (pa_cons pe_int pa_nil))) pe_int (nomark _))
      (pss_one (ps_expr (pe_bmK (K := K) (id := "list.append") rfl (pe_bm PySem.F.plainAttrs_list PySem.F.slot_list_append PySem.F.type_list_append mt_append (pv 2) (pa_cons (pe_tup (pa_cons (pv 3) (pa_cons (pe_callO (ok_l_worth (K := K) T) hr (by rfl) (pa_cons (pv 0) pa_nil)) pa_nil))) pa_nil)))))
      pss_nil)))
      (pss_one (ps_ret (pe_tup (pa_cons pe_str (pa_cons (pe_callO (ok_l_draw (K := K) T) (hr.mono (by decide)) (by rfl) (pa_cons (pv 0) (pa_cons (pe_ix (ix_U (K := K) rfl (hu_of hr)) (pe_lst (pa_cons pe_int (pa_cons (pe_op op_powU pe_int pe_int) pa_nil))) (pe_callO (ok_l_draw (K := K) T) (hr.mono (by decide)) (by rfl) (pa_cons (pv 0) (pa_cons pe_int pa_nil))) (fun _ _ => rfl)) pa_nil))) (pa_cons (pv 2) pa_nil)))))))), ?_⟩
  walk_at "yn"
  obtain ⟨zv, hzv, hzp⟩ := at_list_ref hza
  have e0 := strs_of hzp
  subst e0
  refine y_newM S fun f H hf0 S => ?_
  walk_at "yn"
  refine y_sortStr (S.l hzv) ?_
  refine y_newI S fun sl B1 H b1 hsl _ S => ?_
  have hpm := List.mergeSort_perm zs strLe
  have hsa : At cS K B1 (.ref sl) (zs.mergeSort strLe) := .list (sqL hsl) (pr_strs _)
  have hsn : (zs.mergeSort strLe).Nodup := hpm.nodup_iff.mpr hnd
  have hsm : ∀ z ∈ zs.mergeSort strLe, z ∈ zs := fun z hz => hpm.mem_iff.mp hz
  have hsl2 : (zs.mergeSort strLe).length ≤ 20 := by rw [hpm.length_eq]; exact hzl
  generalize zs.mergeSort strLe = ys at hsa hsn hsm hsl2 hsl
  clear hpm
  walk_at "yn"
  refine y_forC (c := .str) (fun i σ H => ∃ (B2 : Hp) (o : HO) (vs : List V) (rows : List (Str × Int)), (∃ (y3 : Option V), σ = [some (.ref bg), some (.ref a), some (.ref f), y3]) ∧ Same B1 B2 ∧ Sy e B2 H [(f, .lst vs), (bg, o)] ∧ vs.length ≤ i ∧ Paired (At (.tup2 .str .int) K B2) vs rows ∧ (rows.map (·.1)).Sublist (ys.take i) ∧ Bag (n + 200 - 5 * i) o) hsa ⟨B1, o, [], [], ⟨_, rfl⟩, Same.refl _, S, Nat.le_refl _, .nil, List.nil_sublist _, hb.mono (by omega)⟩ (fun i σ H hi2 ⟨B2, o, vs, rows, _, b2, S, _⟩ => ⟨B2, _, b2, S⟩) ?_ ?_
  · clear S hb
    rintro i y z σ H hz hyz ⟨B2, o, vs, rows, ⟨y3, rfl⟩, b2, S, hl, hpr, hsub, hb⟩
    have hi3 : i < ys.length := (List.getElem?_eq_some_iff.mp hz).1
    have e1 := at_str hyz
    subst e1
    walk_at "yn"
    refine y_ifS ?_
    walk_at "yy"
    refine y_drawN 1 S rfl hb (by omega) (by omega) (by omega) fun j o H j0 j1 hb S => ?_
    try simp only [List.set] at S
    walk_at "yn"
    refine y_iteI (fun c => ?_) (fun c => ?_)
    · walk_at "yy"
      refine y_spN 1 S rfl ⟨bg, o, n + 200 - 5 * (i + 1), rfl, rfl, hb.mono (by omega), fun w0 o B3 b3 hb H T => ?_⟩
      replace S := S.backN1 1 rfl T
      clear T
      try simp only [List.set] at S
      walk_at "yn"
      refine y_newI S fun t B4 H b4 ht _ S => ?_
      walk_at "yn"
      refine y_app 0 S rfl (lenLt (by omega)) fun H S => ?_
      try simp only [List.set] at S
      walk_at "yn"
      refine ⟨B4, o, vs ++ [.ref t], rows ++ [(z, w0)], ⟨_, rfl⟩, b2.trans (b3.trans b4), S, by rw [List.length_append, List.length_singleton]; omega, pr_app (pr_up at_up (b3.trans b4) hpr) (.cons (.tup2 (sqT ht) .str .int) .nil), ?_, hb.mono (by omega)⟩
      rw [List.map_append, take_get hz]
      exact hsub.append (List.Sublist.refl _)
    · walk_at "yy"
      refine ⟨B2, o, vs, rows, ⟨_, rfl⟩, b2, S, by omega, hpr, ?_, hb.mono (by omega)⟩
      rw [take_get hz]
      exact hsub.trans (List.sublist_append_left _ _)
  clear S hb
  rintro σ H ⟨B2, o, vs, rows, ⟨y3, rfl⟩, b2, S, hl, hpr, hsub, hb⟩
  rw [List.take_length] at hsub
  obtain ⟨B3, b3, hf3, S⟩ := S.frz 0 rfl hf0
  try simp only [List.eraseIdx] at S
  walk_at "yn"
  refine y_powI (pow_ok (b := 4) (by decide) (by decide) (by decide) (by decide) (by decide)) ?_
  rw [ten20]
  walk_at "yn"
  refine y_newI S fun q B4 H b4 hq _ S => ?_
  walk_at "yn"
  refine y_drawN 0 S rfl hb (by omega) (by omega) (by omega) fun j o H j0 j1 hb S => ?_
  try simp only [List.set] at S
  walk_at "yn"
  refine y_ixM (S.l (sqL hq)) (by omega) (by exact j1) fun v hv => ?_
  have hv2 : ∃ y, v = .int y ∧ 0 < y ∧ y ≤ 100000000000000000000 := by
    simp only [List.mem_cons, List.not_mem_nil, or_false] at hv
    rcases hv with rfl | rfl
    · exact ⟨_, rfl, by omega, by omega⟩
    · exact ⟨_, rfl, by omega, by omega⟩
  obtain ⟨y, rfl, hy0, hy1⟩ := hv2
  walk_at "yn"
  refine y_drawN 0 S rfl hb (by omega) (by omega) (by omega) fun m o H m0 m1 hb S => ?_
  try simp only [List.set] at S
  walk_at "yn"
  refine y_newI S fun t B5 H b5 ht _ S => ?_
  exact k t m rows o B5 (b1.trans (b2.trans (b3.trans (b4.trans b5)))) (.tup (sqT ht) (.cons (.str _) (.cons (.int _) (.cons (At.list (c := .tup2 .str .int) (sqL (up_o (b4.trans b5) hf3)) (pr_up at_up (b3.trans (b4.trans b5)) hpr)) .nil)))) m0 (hsn.sublist hsub) (fun p hp => hsm _ (hsub.subset (List.mem_map.mpr ⟨p, hp, rfl⟩))) (hb.mono (by omega)) _ S
theorem ok_l_raised (T : Tx w K mg) : Ok P w K mg base 4 "_law_raised" ["well", "keys"] (spY (φ_raised K)) :=
  Ok.of T.F_l_raised T.g_l_raised (fun _ _ _ _ _ _ us hl => match us, hl with | [_, _], _ => rfl) (fn_l_raised T)
/-- a history that can be so -/
structure HistOk (zs : List Str) (evs : List Ev) (s : AS) : Prop where
  fs : s = evs.foldl AS.happens AS.init
  j : judged AS.init 0 evs = none
  e : ∀ ev ∈ evs, EvOk zs ev
  a : AS.Ok zs evs.length s
  p : Pos s
  r : ∀ ev ∈ evs, EvR ev
theorem HistOk.nil (zs : List Str) : HistOk zs [] AS.init := ⟨rfl, rfl, fun ev h => (by cases h), AS.Ok.init zs, ⟨fun q h => (by cases h), fun q h => (by cases h)⟩, fun ev h => (by cases h)⟩
theorem HistOk.snoc {zs : List Str} {evs : List Ev} {s : AS} {ev : Ev} (h : HistOk zs evs s) (hc : s.canB evs.length ev = true) (he : EvOk zs ev) (hr : EvR ev) : HistOk zs (evs ++ [ev]) (s.happens ev) := by
  refine ⟨by rw [List.foldl_append, ← h.fs]; rfl, judged_snoc h.j (by rw [← h.fs, Nat.zero_add]; exact hc), fun x hx => ?_, ?_, h.p.step hc, fun x hx => ?_⟩
  · rcases List.mem_append.mp hx with hx | hx
    · exact h.e x hx
    · rw [List.mem_singleton.mp hx]; exact he
  · rw [List.length_append]
    refine h.a.step he hc fun e => ?_
    have e1 := List.length_eq_zero_iff.mp e
    rw [h.fs, e1]
    exact ⟨rfl, rfl⟩
  · rcases List.mem_append.mp hx with hx | hx
    · exact h.r x hx
    · rw [List.mem_singleton.mp hx]; exact hr
theorem can_any {s : AS} {i j : Nat} {ev : Ev} (h : evTag ev ≠ "raised") (hc : s.canB i ev = true) : s.canB j ev = true := by
  cases ev with
  | raised => exact absurd rfl h
  | _ => exact hc
def φ_history (K : PySem.W.Frag) : Ph := fun B vs L k => ∃ (a : Addr) (ns : List Int) (fi mo fl : Int), vs = [.ref a, .int fi, .int mo, .int fl] ∧ L = [] ∧ SqL K B a (ns.map V.int) ∧ ns.length ≤ 63 ∧ 0 ≤ fi ∧ fi ≤ 100 ∧ 1 ≤ mo ∧ mo ≤ 800 ∧ (fl = 0 ∨ fl = 1) ∧
  ∀ t ka ea zs evs s B', Same B B' → SqT K B' t [.ref ka, .ref ea] → At cS K B' (.ref ka) zs → At (.list evC) K B' (.ref ea) evs → HistOk zs evs s → 0 < zs.length → zs.length ≤ 20 → (∀ z ∈ zs, KeyS z) → zs.Nodup → evs.length ≤ mo.toNat → 0 < evs.length → (fl = 0 → ∀ ev ∈ evs, evTag ev ≠ "fall" ∧ evTag ev ≠ "raised") → k B' (.ref t) []
theorem fn_l_history (T : Tx w K mg) (fd : FuncData) (F : FunD K "_law_history" "_law_history" (defArgs s_l_history) (defBody s_l_history) (defScope s_l_history) [] [] (He.ga K "_law_history") fd) : FnOk P w K mg base CX0 5 (He.ga K "_law_history") fd ["cells", "first", "most", "falls"] (spY (φ_history K)) := by
  refine fnM F sc_l_history (fun B vs L k h => by obtain ⟨_, _, _, _, _, rfl, _⟩ := h; rfl) (fun cdv A outer s H vs Q E B L e hz he hr S h => ?_)
  obtain ⟨a, ns, fi, mo, fl, rfl, rfl, hq, hnl, hf0, hf1, hm0, hm1, hfl, k⟩ := h
  refine ⟨_, (pss_cons (ps_set (i := 4) sc_l_history.nd rfl (.inl rfl) (pe_callO (ok_l_well (K := K) T) (hr.mono (by decide)) (by rfl) (pa_cons (pe_callO (ok_l_cell_at (K := K) T) (hr.mono (by decide)) (by rfl) (pa_cons (pv 0) (pa_cons pe_int pa_nil))) (pa_cons (pv 1) pa_nil))))
      (pss_cons (ps_set (i := 5) sc_l_history.nd rfl (.inl rfl) (pe_lst pa_nil))
      (pss_cons (ps_for PassesOwn.never rfl (pi_range1 (by rfl) T.n_range (pa_cons (pe_op (op_addU (K := K) rfl) pe_int (pe_callO (ok_l_draw (K := K) T) (hr.mono (by decide)) (by rfl) (pa_cons (pv 4) (pa_cons pe_int pa_nil)))) pa_nil)) (pg_name (i := 6) sc_l_history.nd rfl (.inl rfl))
      (pss_one (ps_expr (pe_bmK (K := K) (id := "list.append") rfl (pe_bm PySem.F.plainAttrs_list PySem.F.slot_list_append PySem.F.type_list_append mt_append (pv 5) (pa_cons (pe_callO (ok_l_new_name (K := K) T) (hr.mono (by decide)) (by rfl) (pa_cons (pv 4) (pa_cons (pv 5) pa_nil))) pa_nil))))))
      (pss_cons (ps_set (i := 7) sc_l_history.nd rfl (.inl rfl) (pe_callO0 (ok_l_new_state (K := K) T) (hr.mono (by decide)) (by rfl)))
      (pss_cons (ps_set (i := 8) sc_l_history.nd rfl (.inl rfl) (pe_lst pa_nil))
      (pss_cons (ps_if (PW.pt (pw_and (pt_cmpR op_gtU (pv 3) pe_int (nomark _)) (pw_and1 (pt_cmpR (op_eqZ (K := K) rfl hr.units) (pe_callO (ok_l_draw (K := K) T) (hr.mono (by decide)) (by rfl) (pa_cons (pv 4) (pa_cons pe_int pa_nil))) pe_int (nomark _)))))
      (pss_cons (ps_expr (pe_bmK (K := K) (id := "list.append") rfl (pe_bm PySem.F.plainAttrs_list PySem.F.slot_list_append PySem.F.type_list_append mt_append (pv 8) (pa_cons (pe_callO (ok_l_raised (K := K) T) hr (by rfl) (pa_cons (pv 4) (pa_cons (pv 5) pa_nil))) pa_nil))))
      (pss_one (ps_expr (pe_callO (ok_l_happens (K := K) T) (hr.mono (by decide)) (by rfl) (pa_cons (pv 7) (pa_cons (pe_ix (ix_U (K := K) rfl (hu_of hr)) (pv 8) pe_int (fun _ _ => rfl)) pa_nil))))))
      pss_nil)
      (pss_cons (ps_for PassesOwn.never rfl (pi_range2 (by rfl) T.n_range (pa_cons pe_int (pa_cons (pe_callB (call_max2U rfl) (by rfl) T.n_max (by decide +kernel) (pa_cons pe_int (pa_cons (pe_callB (call_lenU (K := K) rfl) (by rfl) T.n_len (by decide +kernel) (pa_cons (pv 0) pa_nil)) pa_nil))) pa_nil))) (pg_name (i := 6) sc_l_history.nd rfl (.inl rfl))
      (pss_cons (ps_set (i := 9) sc_l_history.nd rfl (.inl rfl) (pe_callO (ok_l_well (K := K) T) (hr.mono (by decide)) (by rfl) (pa_cons (pe_callO (ok_l_cell_at (K := K) T) (hr.mono (by decide)) (by rfl) (pa_cons (pv 0) (pa_cons (pv 6) pa_nil))) (pa_cons (pe_op (op_addU (K := K) rfl) (pv 1) (pv 6)) pa_nil))))
      (pss_one (ps_for PassesOwn.never rfl (pi_range1 (by rfl) T.n_range (pa_cons (pe_op (op_addU (K := K) rfl) pe_int (pe_callO (ok_l_draw (K := K) T) (hr.mono (by decide)) (by rfl) (pa_cons (pv 9) (pa_cons pe_int pa_nil)))) pa_nil)) (pg_name (i := 10) sc_l_history.nd rfl (.inl rfl))
      (pss_one (ps_if (pt_cmpR op_ltU (pe_callB (call_lenU (K := K) rfl) (by rfl) T.n_len (by decide +kernel) (pa_cons (pv 8) pa_nil)) (pv 2) (nomark _))
      (pss_cons (ps_expr (pe_bmK (K := K) (id := "list.append") rfl (pe_bm PySem.F.plainAttrs_list PySem.F.slot_list_append PySem.F.type_list_append mt_append (pv 8) (pa_cons (pe_callO (ok_l_deed (K := K) T) hr (by rfl) (pa_cons (pv 9) (pa_cons (pv 7) (pa_cons (pv 5) (pa_cons (pv 3) pa_nil))))) pa_nil))))
      (pss_one (ps_expr (pe_callO (ok_l_happens (K := K) T) (hr.mono (by decide)) (by rfl) (pa_cons (pv 7) (pa_cons (pe_ix (ix_U (K := K) rfl (hu_of hr)) (pv 8) (pe_un un_negU pe_int) (fun _ _ => rfl)) pa_nil))))))
      pss_nil))))))
      (pss_one (ps_ret (pe_tup (pa_cons (pv 5) (pa_cons (pv 8) pa_nil)))))))))))), ?_⟩
  walk_at "yn"
  refine y_cell S hq (by omega) fun c H S => ?_
  walk_at "yn"
  refine y_bag S (by omega) (by omega) fun bg o H hbg0 hb S => ?_
  walk_at "yn"
  refine y_newM S fun ka H hka0 S => ?_
  walk_at "yn"
  replace S : Sy _ _ _ [_, _] := S.ix [1, 0] (n := 2) rfl (by decide)
  refine y_drawN 0 S rfl hb (by omega) (by omega) (by omega) fun nk o H nk0 nk1 hb S => ?_
  try simp only [List.set] at S
  walk_at "yn"
  refine y_forR (fun i σ H => ∃ (B1 : Hp) (o : HO) (zs : List Str), (∃ (y6 y7 y8 y9 y10 : Option V), σ = [some (.ref a), some (.int fi), some (.int mo), some (.int fl), some (.ref bg), some (.ref ka), y6, y7, y8, y9, y10]) ∧ Same B B1 ∧ Sy e B1 H [(bg, o), (ka, .lst (zs.map V.str))] ∧ (∀ z ∈ zs, KeyS z) ∧ zs.Nodup ∧ zs.length = i ∧ Bag (900000 - 20 * i) o) ⟨B, o, [], ⟨_, _, _, _, _, rfl⟩, Same.refl _, S, (fun z hz => by cases hz), by simp, rfl, hb.mono (by omega)⟩ ?_ ?_
  · clear S hb
    rintro i σ H hi ⟨B1, o, zs, ⟨y6, y7, y8, y9, y10, rfl⟩, b1, S, hk, nd, hl, hb⟩
    walk_at "yn"
    refine y_spG (L := [_, _]) S ⟨bg, o, ka, zs, 900000 - 20 * (i + 1), rfl, rfl, hb.mono (by omega), hk, by omega, fun z o B2 hz hnz hb b2 H T => ?_⟩
    obtain ⟨-, S, -⟩ := S.backG T
    clear T
    try simp only [List.cons_append, List.nil_append] at S
    walk_at "yn"
    refine y_app 1 S rfl (lenLt (by first | omega | (simp <;> omega))) fun H S => ?_
    try simp only [List.set] at S
    walk_at "yn"
    rw [show zs.map V.str ++ [V.str z] = (zs ++ [z]).map V.str by rw [List.map_append]; rfl] at S
    refine ⟨B2, o, _, ⟨_, _, _, _, _, rfl⟩, b1.trans b2, S, fun x hx => ?_, ?_, by simp [hl], hb.mono (by omega)⟩
    · rcases List.mem_append.mp hx with hx | hx
      · exact hk x hx
      · rw [List.mem_singleton.mp hx]; exact hz
    · refine List.nodup_append.mpr ⟨nd, by simp, fun x hx y hy hxy => ?_⟩
      rw [List.mem_singleton] at hy
      rw [hxy, hy] at hx
      exact hnz hx
  clear S hb
  rintro σ H ⟨B1, o, zs, ⟨y6, y7, y8, y9, y10, rfl⟩, b1, S, hk, nd, hl, hb⟩
  have hz0 : 0 < zs.length := by omega
  have hz1 : zs.length ≤ 20 := by omega
  obtain ⟨B2, b2, hka, S⟩ := S.frz 1 rfl hka0
  try simp only [List.eraseIdx] at S
  have hkaA : At cS K B2 (.ref ka) zs := .list (sqL hka) (pr_strs _)
  clear hka
  walk_at "yn"
  refine y_sp0 S ⟨rfl, rfl, fun x B3 b3 hks hos xok H T => ?_⟩
  obtain ⟨-, S, hnew⟩ := Sy.backG (L := []) S T
  clear T
  replace S := S.perm List.perm_append_comm
  replace S : Sy e B3 H ((bg, o) :: stL x AS.init.base) := S
  walk_at "yn"
  refine y_newM S fun fo H hfo0 S => ?_
  replace S : Sy e B3 H ((bg, o) :: (stL x AS.init.base ++ [(fo, .lst [])])) := S.perm (List.perm_append_comm (l₁ := [_]))
  walk_at "yn"
  refine y_cutS (R := fun σ H => ∃ (B4 : Hp) (xa : SA) (s : AS) (fv : List V) (evs : List Ev), (∃ (y6 y9 y10 : Option V), σ = [some (.ref a), some (.int fi), some (.int mo), some (.int fl), some (.ref bg), some (.ref ka), y6, some (.ref x.st), some (.ref fo), y9, y10]) ∧ Same B3 B4 ∧ xa.st = x.st ∧ StOk K B4 xa s ∧ Sy e B4 H (stL xa s.base ++ [(fo, .lst fv)]) ∧ Paired (At evC K B4) fv evs ∧ HistOk zs evs s ∧ evs.length ≤ 1 ∧ (fl = 0 → ∀ ev ∈ evs, evTag ev ≠ "fall" ∧ evTag ev ≠ "raised")) (fun nx' hnx => ?_) (fun σ H hR => ?_)
  · refine y_ifS ?_
    refine y_cutT (R := fun b H => ∃ o, Bag 300 o ∧ (b = true → 0 < fl) ∧ Sy e B3 H ((bg, o) :: (stL x AS.init.base ++ [(fo, .lst [])]))) (fun Q' hQ => ?_) (fun bc H hR => ?_)
    · walk_at "yy"
      refine y_ite (fun c => ?_) (fun c => ?_)
      · walk_at "yy"
        refine y_drawN 0 S rfl hb (by omega) (by omega) (by omega) fun j o H j0 j1 hb S => ?_
        try simp only [List.set] at S
        walk_at "yn"
        walk_at "yy"
        exact hQ _ _ ⟨o, hb.mono (by omega), fun _ => c, S⟩
      · walk_at "yy"
        exact hQ _ _ ⟨o, hb.mono (by omega), fun h => (by cases h), S⟩
    clear S hb
    obtain ⟨o, hb, hbc, S⟩ := hR
    refine y_iteB (fun hb1 => ?_) (fun hb1 => ?_)
    · have hfl1 := hbc hb1
      have hmem0 : (fo, HO.lst []) ∈ stL x AS.init.base ++ [(fo, HO.lst [])] := List.mem_append_right _ (List.mem_singleton_self _)
      walk_at "yy"
      refine y_spN 0 S rfl ⟨bg, o, ka, zs, 10, rfl, rfl, hb.mono (by omega), hkaA.up b3, hz1, nd, fun t m rows o B4 b4 hev hm0 hrn hrz hb H T => ?_⟩
      replace S := S.backN1 0 rfl T
      clear T
      try simp only [List.set] at S
      walk_at "yn"
      replace S := S.tail
      have hap := (List.getElem?_append_right (l₁ := stL x AS.init.base) (l₂ := [(fo, HO.lst [])]) (i := (stL x AS.init.base).length) (Nat.le_refl _))
      rw [Nat.sub_self] at hap
      refine y_app (stL x AS.init.base).length S hap (lenLt (by decide)) fun H S => ?_
      rw [List.set_append_right _ _ (Nat.le_refl _), Nat.sub_self] at S
      replace S : Sy e B4 H (stL x AS.init.base ++ [(fo, .lst [.ref t])]) := S
      have hap2 := (List.mem_append_right (stL x AS.init.base) (List.mem_singleton_self (fo, HO.lst [V.ref t])))
      walk_at "yy"
      have hok : EvOk zs (.raised m rows) := ⟨fun n' r' z => by cases z; exact ⟨hm0, hrn, hrz⟩, fun _ _ _ z => (by cases z), fun _ _ z => (by cases z)⟩
      refine y_spG (L := stL x AS.init.base) S ⟨x, AS.init, zs, 0, 0, .ref t, .raised m rows, rfl, rfl, hev, xok.up b4, AS.Ok.init zs, hok, by decide, rfl, fun xa B5 b5 hst hok5 H T => ?_⟩
      obtain ⟨-, S, -⟩ := S.backG T
      clear T
      walk_at "yy"
      refine hnx _ _ ⟨B5, xa, _, [.ref t], [.raised m rows], ⟨_, _, _, rfl⟩, b4.trans b5, hst, hok5, S, .cons (hev.up b5) .nil, (HistOk.nil zs).snoc rfl hok (evR_other (by intros; simp)), by simp, fun z => absurd z (by omega)⟩
    · walk_at "yy"
      exact hnx _ _ ⟨B3, x, AS.init, [], [], ⟨_, _, _, rfl⟩, Same.refl _, rfl, xok, S.tail, .nil, HistOk.nil zs, by simp, fun _ ev h => (by cases h)⟩
  clear S xok hnew hb
  obtain ⟨B4, xa, s4, fv, evs, ⟨y6, y9, y10, rfl⟩, b4, hst, xok, S, hfv, hho, hel, hnf⟩ := hR
  have hk4 : At cS K B4 (.ref ka) zs := hkaA.up (b3.trans b4)
  have bb4 : Same B B4 := b1.trans (b2.trans (b3.trans b4))
  have hel2 : evs.length ≤ mo.toNat := by omega
  clear hel
  walk_at "yn"
  rw [List.length_map]
  walk_at "yn"
  refine y_forR (fun i σ H => ∃ (B5 : Hp) (xa : SA) (s : AS) (fv : List V) (evs : List Ev), (∃ (y4 y6 y9 y10 : Option V), σ = [some (.ref a), some (.int fi), some (.int mo), some (.int fl), y4, some (.ref ka), y6, some (.ref x.st), some (.ref fo), y9, y10]) ∧ Same B4 B5 ∧ xa.st = x.st ∧ StOk K B5 xa s ∧ Sy e B5 H (stL xa s.base ++ [(fo, .lst fv)]) ∧ Paired (At evC K B5) fv evs ∧ HistOk zs evs s ∧ evs.length ≤ mo.toNat ∧ (0 < i → 0 < evs.length) ∧ (fl = 0 → ∀ ev ∈ evs, evTag ev ≠ "fall" ∧ evTag ev ≠ "raised")) ⟨B4, xa, s4, fv, evs, ⟨_, _, _, _, rfl⟩, Same.refl _, hst, xok, S, hfv, hho, hel2, fun z => absurd z (by omega), hnf⟩ ?_ ?_
  · clear S hst xok hfv hho hel2 hnf
    rintro i σ H hi ⟨B5, xa, s5, fv, evs, ⟨y4, y6, y9, y10, rfl⟩, b5, hst, xok, S, hfv, hho, hel2, hne, hnf⟩
    walk_at "yn"
    refine y_cell S (up_l (bb4.trans b5) hq) (by omega) fun c H S => ?_
    walk_at "yn"
    refine y_bag S (by omega) (by omega) fun wg o H hwg0 hb S => ?_
    walk_at "yn"
    refine y_drawN 0 S rfl hb (by omega) (by omega) (by omega) fun nj o H nj0 nj1 hb S => ?_
    try simp only [List.set] at S
    walk_at "yn"
    refine y_forR (fun j σ H => ∃ (B6 : Hp) (xa : SA) (s : AS) (fv : List V) (evs : List Ev) (o : HO), (∃ (y4 y6 y10 : Option V), σ = [some (.ref a), some (.int fi), some (.int mo), some (.int fl), y4, some (.ref ka), y6, some (.ref x.st), some (.ref fo), some (.ref wg), y10]) ∧ Same B5 B6 ∧ xa.st = x.st ∧ StOk K B6 xa s ∧ Sy e B6 H ((wg, o) :: (stL xa s.base ++ [(fo, .lst fv)])) ∧ Paired (At evC K B6) fv evs ∧ HistOk zs evs s ∧ evs.length ≤ mo.toNat ∧ (0 < j → 0 < evs.length) ∧ (fl = 0 → ∀ ev ∈ evs, evTag ev ≠ "fall" ∧ evTag ev ≠ "raised") ∧ Bag (900000 - 20 * j) o) ⟨B5, xa, s5, fv, evs, o, ⟨_, _, _, rfl⟩, Same.refl _, hst, xok, S, hfv, hho, hel2, fun z => absurd z (by omega), hnf, hb.mono (by omega)⟩ ?_ ?_
    · clear S hst xok hfv hho hel2 hnf hb hne
      rintro j σ H hj ⟨B6, xa, s6, fv, evs, o, ⟨y4, y6, y10, rfl⟩, b6, hst, xok, S, hfv, hho, hel2, hne, hnf, hb⟩
      have hfvl : fv.length = evs.length := hfv.length
      have hmem : (fo, HO.lst fv) ∈ stL xa s6.base ++ [(fo, HO.lst fv)] := List.mem_append_right _ (List.mem_singleton_self _)
      walk_at "yn"
      refine y_ifS ?_
      walk_at "yy"
      rw [hfvl]
      refine y_ite (fun c => ?_) (fun c => ?_)
      · walk_at "yy"
        rw [← hst]
        refine y_spG (L := (wg, o) :: stL xa s6.base) (R := [(fo, .lst fv)]) S ⟨wg, o, xa, s6, ka, zs, evs.length, 900000 - 20 * (j + 1), fl, rfl, rfl, hb.mono (by omega), xok, hho.a, by omega, hho.p, hk4.up (b5.trans b6), hz0, hz1, hk, fun v ev o B7 b7 hev hc heok hnr hnf1 hb H T => ?_⟩
        obtain ⟨-, S, -⟩ := S.backG T
        clear T
        have hap : (((wg, o) :: stL xa s6.base) ++ [(fo, HO.lst fv)])[((wg, o) :: stL xa s6.base).length]? = some (fo, HO.lst fv) := by
          rw [List.getElem?_append_right (Nat.le_refl _), Nat.sub_self]
          rfl
        walk_at "yy"
        refine y_app ((wg, o) :: stL xa s6.base).length S hap (lenLt (by omega)) fun H S => ?_
        rw [List.set_append_right _ _ (Nat.le_refl _), Nat.sub_self] at S
        replace S : Sy e B7 H ((wg, o) :: (stL xa s6.base ++ [(fo, .lst (fv ++ [v]))])) := S
        have hmem2 : (fo, HO.lst (fv ++ [v])) ∈ stL xa s6.base ++ [(fo, HO.lst (fv ++ [v]))] := List.mem_append_right _ (List.mem_singleton_self _)
        walk_at "yy"
        refine y_ixL (sqL (S.ledM1 hmem2)) (atI_lastG (n := fv.length) (v := v) (by simp) (by simp)) ?_
        replace S : Sy e B7 H (stL xa s6.base ++ ([(fo, .lst (fv ++ [v]))] ++ [(wg, o)])) := by
          rw [← List.append_assoc]
          exact S.perm (List.perm_append_comm (l₁ := [_]))
        walk_at "yy"
        refine y_spG (L := stL xa s6.base) S ⟨xa, s6, zs, evs.length, 1, v, ev, rfl, rfl, hev, xok.up b7, hho.a, heok.1, by omega, hc, fun xb B8 b8 hstb hok8 H T => ?_⟩
        obtain ⟨-, S, -⟩ := S.backG T
        clear T
        replace S : Sy e B8 H ((wg, o) :: (stL xb (s6.happens ev).base ++ [(fo, .lst (fv ++ [v]))])) := by
          refine S.perm ?_
          rw [← List.append_assoc]
          exact List.perm_append_comm (l₂ := [_])
        walk_at "yy"
        refine ⟨B8, xb, _, fv ++ [v], evs ++ [ev], o, ⟨_, _, _, rfl⟩, b6.trans (b7.trans b8), hstb, hok8, S, pr_app (pr_up at_up (b7.trans b8) hfv) (.cons (hev.up b8) .nil), hho.snoc (can_any hnr hc) heok.1 heok.2, by rw [List.length_append, List.length_singleton]; omega, fun _ => by rw [List.length_append, List.length_singleton]; omega, fun z q hq => ?_, hb.mono (by omega)⟩
        rcases List.mem_append.mp hq with hq | hq
        · exact hnf z q hq
        · rw [List.mem_singleton.mp hq]
          exact ⟨hnf1 z, hnr⟩
      · walk_at "yy"
        exact ⟨B6, xa, s6, fv, evs, o, ⟨_, _, _, rfl⟩, b6, hst, xok, S, hfv, hho, hel2, fun _ => by omega, hnf, hb.mono (by omega)⟩
    clear S hst xok hfv hho hel2 hnf hb hne
    rintro σ H ⟨B6, xa, s6, fv, evs, o, ⟨y4, y6, y10, rfl⟩, b6, hst, xok, S, hfv, hho, hel2, hne, hnf, hb⟩
    have hne := hne (by omega)
    exact ⟨B6, xa, s6, fv, evs, ⟨_, _, _, _, rfl⟩, b5.trans b6, hst, xok, S.tail, hfv, hho, hel2, fun _ => hne, hnf⟩
  clear S hst xok hfv hho hel2 hnf
  rintro σ H ⟨B5, xa, s5, fv, evs, ⟨y4, y6, y9, y10, rfl⟩, b5, hst, xok, S, hfv, hho, hel2, hne, hnf⟩
  have hne := hne (by omega)
  replace S : Sy e B5 H [(fo, .lst fv)] := S.sub (List.sublist_append_right _ _)
  obtain ⟨B6, b6, hfo, S⟩ := S.frz 0 rfl hfo0
  try simp only [List.eraseIdx] at S
  walk_at "yn"
  refine y_newI S fun t B7 H b7 ht _ S => ?_
  exact k t ka fo zs evs s5 B7 (bb4.trans (b5.trans (b6.trans b7))) (sqT ht) (hk4.up (b5.trans (b6.trans b7))) (.list (sqL (up_o b7 hfo)) (pr_up at_up (b6.trans b7) hfv)) hho hz0 hz1 hk nd hel2 hne hnf _ S
theorem ok_l_history (T : Tx w K mg) : Ok P w K mg base 5 "_law_history" ["cells", "first", "most", "falls"] (spY (φ_history K)) :=
  Ok.of T.F_l_history T.g_l_history (fun _ _ _ _ _ _ us hl => match us, hl with | [_, _, _, _], _ => rfl) (fn_l_history T)

def φ_copied (K : PySem.W.Frag) : Ph := fun B vs L k => ∃ (a : Addr) (evs : List Ev), vs = [.ref a] ∧ L = [] ∧ At (.list evC) K B (.ref a) evs ∧ evs.length ≤ 1000 ∧ ∀ c B', Same B B' → At (.list evC) K B' (.ref c) evs → k B' (.ref c) []
theorem cutN3 {a b c : V} : cutV [a, b, c] none (some (-1)) = [a, b] := by rw [cut_init]; rfl
theorem cutN5 {a b c d f : V} : cutV [a, b, c, d, f] none (some (-1)) = [a, b, c, d] := by rw [cut_init]; rfl
theorem fn_l_copied (T : Tx w K mg) (fd : FuncData) (F : FunD K "_law_copied" "_law_copied" (defArgs s_l_copied) (defBody s_l_copied) (defScope s_l_copied) [] [] (He.ga K "_law_copied") fd) : FnOk P w K mg base CX0 1 (He.ga K "_law_copied") fd ["events"] (spY (φ_copied K)) := by
  refine fnM F sc_l_copied (fun B vs L k h => by obtain ⟨_, _, rfl, _⟩ := h; rfl) (fun cdv A outer s H vs Q E B L e hz he hr S h => ?_)
  obtain ⟨a, evs, rfl, rfl, hat, hl, k⟩ := h
  refine ⟨_, (pss_one (ps_ret (pe_lc (own := [("event", 1)]) (by rfl) sc_l_copied.nd (pi_listK (K := K) rfl (pv 0)) (blkOk_by (own := [("event", 1)]) (N := ["events", "event"]) (sc := defScope s_l_copied) (by decide +kernel)) (fun _ _ _ _ _ => (pg_name (i := 1) sc_l_copied.nd rfl (.inl rfl))) (fun _ _ _ _ _ => pts_nil) (fun _ _ _ _ _ => (pe_ifExp (pt_val (pe_callB (call_isiZ (K := K) rfl) (by rfl) T.n_isinstance (by decide +kernel) (pa_cons (pe_ix (ix_U (K := K) rfl (hu_of hr)) (pv 1) (pe_un un_negU pe_int) (fun _ _ => rfl)) (pa_cons (pe_bltn (v := .ty "list") (u := .type "list") (by rfl) T.n_list (by decide +kernel) rfl) pa_nil)))) (pe_op (op_addU (K := K) rfl) (pe_slice (sl_tupK (K := K) rfl) (pv 1) po_none (po_some (pe_un un_negU pe_int))) (pe_tup (pa_cons (pe_callTy (call_listU (K := K) rfl) (by rfl) T.n_list (by decide +kernel) (pa_cons (pe_ix (ix_U (K := K) rfl (hu_of hr)) (pv 1) (pe_un un_negU pe_int) (fun _ _ => rfl)) pa_nil)) pa_nil))) (pv 1)))))), ?_⟩
  walk_at "yn"
  obtain ⟨vs, hvs, hvp⟩ := at_list_ref hat
  walk_at "yn"
  refine y_lcI (cx := evC) (cy := evC) (fun ev => some ev) S hat (by omega) (fun i ev x B1 H1 D acc Kp Kn hz b1 hx S kp kn => ?_) (fun D B1 H b1 hD hl1 S => ?_)
  · obtain ⟨ta, ws, rfl, hta, hre, hwl⟩ := ev_at hx
    cases ev with
    | begin d =>
      obtain rfl : ws = [.int d] := hre
      walk_at "yn"
      refine y_isiZ (r := false) S (.int _) (by decide +kernel) ?_
      walk_at "yn"
      exact kp _ _ _ _ rfl (Same.refl _) hx S
    | read d key w0 =>
      obtain rfl : ws = [.int d, .str key, wV w0] := hre
      cases w0 with
      | none =>
        rw [show wV none = .non from rfl] at hta
        walk_at "yn"
        refine y_isiZ (r := false) S .non (by decide +kernel) ?_
        walk_at "yn"
        exact kp _ _ _ _ rfl (Same.refl _) hx S
      | some w1 =>
        rw [show wV (some w1) = .int w1 from rfl] at hta
        walk_at "yn"
        refine y_isiZ (r := false) S (.int _) (by decide +kernel) ?_
        walk_at "yn"
        exact kp _ _ _ _ rfl (Same.refl _) hx S
    | put d key w0 =>
      obtain rfl : ws = [.int d, .str key, .int w0] := hre
      walk_at "yn"
      refine y_isiZ (r := false) S (.int _) (by decide +kernel) ?_
      walk_at "yn"
      exact kp _ _ _ _ rfl (Same.refl _) hx S
    | drop d key =>
      obtain rfl : ws = [.int d, .str key] := hre
      walk_at "yn"
      refine y_isiZ (r := false) S (.str _) (by decide +kernel) ?_
      walk_at "yn"
      exact kp _ _ _ _ rfl (Same.refl _) hx S
    | back d m =>
      obtain rfl : ws = [.int d, .int m] := hre
      walk_at "yn"
      refine y_isiZ (r := false) S (.int _) (by decide +kernel) ?_
      walk_at "yn"
      exact kp _ _ _ _ rfl (Same.refl _) hx S
    | mark d m =>
      obtain rfl : ws = [.int d, .int m] := hre
      walk_at "yn"
      refine y_isiZ (r := false) S (.int _) (by decide +kernel) ?_
      walk_at "yn"
      exact kp _ _ _ _ rfl (Same.refl _) hx S
    | keep d m =>
      obtain rfl : ws = [.int d, .int m] := hre
      walk_at "yn"
      refine y_isiZ (r := false) S (.int _) (by decide +kernel) ?_
      walk_at "yn"
      exact kp _ _ _ _ rfl (Same.refl _) hx S
    | undo d =>
      obtain rfl : ws = [.int d] := hre
      walk_at "yn"
      refine y_isiZ (r := false) S (.int _) (by decide +kernel) ?_
      walk_at "yn"
      exact kp _ _ _ _ rfl (Same.refl _) hx S
    | fall d =>
      obtain rfl : ws = [.int d] := hre
      walk_at "yn"
      refine y_isiZ (r := false) S (.int _) (by decide +kernel) ?_
      walk_at "yn"
      exact kp _ _ _ _ rfl (Same.refl _) hx S
    | scan d lo hi rows =>
      obtain ⟨ra, rfl, hra⟩ := hre
      obtain ⟨rv, hrv, hrp⟩ := at_list_ref hra
      walk_at "yn"
      refine y_isiZ (r := true) S (.lst hrv) (by decide +kernel) ?_
      walk_at "yn"
      refine y_slT (S.t hta) (by simp only [List.length_cons, List.length_nil]; decide) ?_
      rw [cutN5]
      refine y_newI S fun t1 B2 H b2 ht1 _ S => ?_
      replace hta := up_t b2 hta
      walk_at "yn"
      refine y_listOf (S.l (up_l b2 hrv)) ?_
      refine y_newI S fun nl B3 H b3 hnl _ S => ?_
      walk_at "yn"
      refine y_newI S fun t2 B4 H b4 ht2 _ S => ?_
      refine y_catT (S.t (sqT (up_o (b3.trans b4) ht1))) (S.t (sqT ht2)) (by simp) (by simp) (lenOk (by simp)) ?_
      refine y_newI S fun t3 B5 H b5 ht3 _ S => ?_
      exact kp _ _ _ _ rfl (b2.trans (b3.trans (b4.trans b5))) (.tup (sqT ht3) (.cons (.str _) (.cons (.int _) (.cons (.str _) (.cons (.str _) (.cons (At.list (c := .tup2 .str .int) (sqL (up_o (b4.trans b5) hnl)) (pr_up at_up (b2.trans (b3.trans (b4.trans b5))) hrp)) .nil)))))) S
    | raised d rows =>
      obtain ⟨ra, rfl, hra⟩ := hre
      obtain ⟨rv, hrv, hrp⟩ := at_list_ref hra
      walk_at "yn"
      refine y_isiZ (r := true) S (.lst hrv) (by decide +kernel) ?_
      walk_at "yn"
      refine y_slT (S.t hta) (by simp only [List.length_cons, List.length_nil]; decide) ?_
      rw [cutN3]
      refine y_newI S fun t1 B2 H b2 ht1 _ S => ?_
      replace hta := up_t b2 hta
      walk_at "yn"
      refine y_listOf (S.l (up_l b2 hrv)) ?_
      refine y_newI S fun nl B3 H b3 hnl _ S => ?_
      walk_at "yn"
      refine y_newI S fun t2 B4 H b4 ht2 _ S => ?_
      refine y_catT (S.t (sqT (up_o (b3.trans b4) ht1))) (S.t (sqT ht2)) (by simp) (by simp) (lenOk (by simp)) ?_
      refine y_newI S fun t3 B5 H b5 ht3 _ S => ?_
      exact kp _ _ _ _ rfl (b2.trans (b3.trans (b4.trans b5))) (.tup (sqT ht3) (.cons (.str _) (.cons (.int _) (.cons (At.list (c := .tup2 .str .int) (sqL (up_o (b4.trans b5) hnl)) (pr_up at_up (b2.trans (b3.trans (b4.trans b5))) hrp)) .nil)))) S
  rw [List.filterMap_some] at hl1
  exact k D B1 b1 hl1 _ S
theorem ok_l_copied (T : Tx w K mg) : Ok P w K mg base 1 "_law_copied" ["events"] (spY (φ_copied K)) :=
  Ok.of T.F_l_copied T.g_l_copied (fun _ _ _ _ _ _ us hl => match us, hl with | [_], _ => rfl) (fn_l_copied T)
theorem jV_w (o : Option Nat) : jV o = wV (o.map fun i => (i : Int)) := by cases o <;> rfl
theorem jV_isb {e : En} {B H : Hp} {L : Led} {Q : VK} {o : Option Nat} (S : Sy e B H L) (q : Q (.bl false) H) : rIsiZ K [jV o, .ty "bool"] H Q := by
  cases o with
  | none => exact y_isiZ (r := false) S .non (by decide +kernel) q
  | some i => exact y_isiZ (r := false) S (.int _) (by decide +kernel) q

def φ_lcan (K : PySem.W.Frag) : Ph := fun B vs L k => ∃ (x : SA) (s : AS) (U : List Str) (n i : Nat) (v : V) (ev : Ev), vs = [.ref x.st, v, .int (i : Nat)] ∧ L = stL x s.base ∧ At evC K B v ev ∧ StOk K B x s ∧ AS.Ok U n s ∧ n ≤ 1000 ∧ U.length ≤ 100 ∧ ∀ B', Same B B' → k B' (.bl (s.canB i ev)) (stL x s.base)
theorem fn_l_can (T : Tx w K mg) (fd : FuncData) (F : FunD K "_law_can" "_law_can" (defArgs s_l_can) (defBody s_l_can) (defScope s_l_can) [] [] (He.ga K "_law_can") fd) : FnOk P w K mg base CX0 4 (He.ga K "_law_can") fd ["state", "event", "at"] (spY (φ_lcan K)) := by
  refine fnM F sc_l_can (fun B vs L k h => by obtain ⟨_, _, _, _, _, _, _, rfl, _⟩ := h; rfl) (fun cdv A outer s H vs Q E B L e hz he hr S h => ?_)
  obtain ⟨x, s1, U, n, i0, v, ev, rfl, rfl, hev, ok, aok, hn, hul, k⟩ := h
  refine ⟨_, (pss_cons (ps_if (pt_cmpR (op_eqZ (K := K) rfl hr.units) (pe_ix (ix_U (K := K) rfl (hu_of hr)) (pv 1) pe_int (fun _ _ => rfl)) pe_str (nomark _))
      (pss_one (ps_ret (pe_cmpR (op_eqZ (K := K) rfl hr.units) (pv 2) pe_int (nomark _))))
      pss_nil)
      (pss_cons (ps_if (pt_cmpR (op_eqZ (K := K) rfl hr.units) (pe_ix (ix_U (K := K) rfl (hu_of hr)) (pv 1) pe_int (fun _ _ => rfl)) pe_str (nomark _))
      (pss_one (ps_ret (pe_chain op_leU op_leU (pe_ix (ix_U (K := K) rfl (hu_of hr)) (pv 0) pe_str (fun _ _ => rfl)) (pe_ix (ix_U (K := K) rfl (hu_of hr)) (pv 1) pe_int (fun _ _ => rfl)) (pe_callO (ok_l_places (K := K) T) (hr.mono (by decide)) (by rfl) (pa_cons (pv 0) pa_nil)))))
      pss_nil)
      (pss_cons (ps_if (pt_cmpR (op_eqZ (K := K) rfl hr.units) (pe_ix (ix_U (K := K) rfl (hu_of hr)) (pv 1) pe_int (fun _ _ => rfl)) pe_str (nomark _))
      (pss_cons (ps_setLc (i := 3) (own := [("one", 4), ("writes", 5)]) (by rfl) sc_l_can.nd rfl rfl (sw_true rfl rfl rfl (by decide +kernel)) (pi_listK (K := K) rfl (pe_ix (ix_U (K := K) rfl (hu_of hr)) (pv 0) pe_str (fun _ _ => rfl))) (blkOk_by (own := [("one", 4), ("writes", 5)]) (N := ["state", "event", "at", "kept", "one", "writes"]) (sc := defScope s_l_can) (by decide +kernel)) (fun _ _ _ _ _ => (pg_tupK (K := K) (n := 2) rfl rfl (pgs_cons (pg_name (i := 4) sc_l_can.nd rfl (.inl rfl)) (pgs_cons (pg_name (i := 5) sc_l_can.nd rfl (.inl rfl)) pgs_nil)))) (fun _ _ _ _ _ => pts_nil) (fun _ _ _ _ _ => (pv 4)))
      (pss_one (ps_ret (pe_and (pe_cmpR op_gtU (pe_ix (ix_U (K := K) rfl (hu_of hr)) (pv 1) pe_int (fun _ _ => rfl)) pe_int (nomark _)) (pe_and (pe_cmpR (op_notInZ (K := K) rfl hr.units) (pe_ix (ix_U (K := K) rfl (hu_of hr)) (pv 1) pe_int (fun _ _ => rfl)) (pe_ix (ix_U (K := K) rfl (hu_of hr)) (pv 0) pe_str (fun _ _ => rfl)) (by rfl)) (pe_one (pe_cmpR (op_notInZ (K := K) rfl hr.units) (pe_ix (ix_U (K := K) rfl (hu_of hr)) (pv 1) pe_int (fun _ _ => rfl)) (pv 3) (by rfl))))))))
      pss_nil)
      (pss_one (ps_ret (pe_and (pe_cmpR (op_inZ (K := K) rfl hr.units) (pe_ix (ix_U (K := K) rfl (hu_of hr)) (pv 1) pe_int (fun _ _ => rfl)) (pe_ix (ix_U (K := K) rfl (hu_of hr)) (pv 0) pe_str (fun _ _ => rfl)) (by rfl)) (pe_one (pe_callO (ok_l_deed_can (K := K) T) hr (by rfl) (pa_cons (pv 0) (pa_cons (pv 1) pa_nil)))))))))), ?_⟩
  walk_at "yn"
  obtain ⟨ta, ws, rfl, hta, hre, hwl⟩ := ev_at hev
  obtain ⟨wr, hwr⟩ := hre.who
  subst hwr
  have hkl := aok.kl
  have hkx : x.ks.length = s1.kept.length := by rw [ok.ks, List.length_map]
  have hkvl : (kdV x.ks).length = x.ks.length := by unfold kdV; rw [List.length_map]
  walk_at "yn"
  refine y_ifS ?_
  walk_at "yy"
  refine y_ixT (S.t hta) (atI_of (by decide) rfl) ?_
  walk_at "yy"
  refine y_iteS (fun h1 => ?_) (fun h1 => ?_)
  · have hcan : s1.canB i0 ev = decide (V.int (i0 : Nat) = V.int 0) := by
      have : s1.canB i0 ev = decide (i0 = 0) := by
        cases ev <;> first | (exfalso; revert h1; simp only [evTag]; decide) | rfl
      rw [this, decide_eq_decide]
      exact ⟨fun z => by rw [z]; rfl, fun z => by have := V.int.inj z; omega⟩
    rw [hcan] at k
    walk_at "yy"
    exact k B (Same.refl _) _ S
  walk_at "yy"
  refine y_ixT (S.t hta) (atI_of (by decide) rfl) ?_
  walk_at "yy"
  refine y_iteS (fun h2 => ?_) (fun h2 => ?_)
  · have hcan : s1.canB i0 ev = (decide (s1.base ≤ evWho ev) && decide (evWho ev ≤ s1.places)) := by
      cases ev <;> first | (exfalso; revert h2; simp only [evTag]; decide) | rfl
    rw [hcan] at k
    walk_at "yy"
    refine y_ixT (S.t hta) (atI_of (by decide) rfl) ?_
    walk_at "yy"
    refine y_ite (fun c => ?_) (fun c => ?_)
    · walk_at "yy"
      refine y_spG (L := stL x s1.base) (R := []) (by rw [List.append_nil]; exact S) ⟨x, s1, rfl, rfl, ok, fun H T => ?_⟩
      obtain ⟨-, S, -⟩ := Sy.backG (R := []) (by rw [List.append_nil]; exact S) T
      clear T
      rw [List.append_nil] at S
      walk_at "yy"
      rw [decide_eq_true c, Bool.true_and] at k
      exact k B (Same.refl _) _ S
    · walk_at "yy"
      rw [decide_eq_false c, Bool.false_and] at k
      exact k B (Same.refl _) _ S
  walk_at "yy"
  refine y_ixT (S.t hta) (atI_of (by decide) rfl) ?_
  walk_at "yy"
  refine y_iteS (fun h3 => ?_) (fun h3 => ?_)
  · have hcan : s1.canB i0 ev = (decide (0 < evWho ev) && (!(s1.find (evWho ev)).isSome && !(s1.kept.any fun p => decide (p.1 = evWho ev)))) := by
      cases ev <;> first | (exfalso; revert h3; simp only [evTag]; decide) | rfl
    rw [hcan] at k
    walk_at "yy"
    refine y_lcRel (At .int K) at_up (walk_list (xs := kdV x.ks)) S (by omega) (fun i => x.ks[i]?.bind fun z => some z.d) (fun B3 H1 D acc b3 S1 => sqL (S1.at 2 rfl)) (fun i y B3 H1 H1' acc D Kp Kn hi b3 S hy kp kn => ?_) (fun B3 H acc D b3 hD hp3 S => ?_)
    · obtain ⟨rfl, e2⟩ := hy
      unfold kdV at e2
      rw [List.getElem?_map] at e2
      obtain ⟨q, hq, rfl⟩ := Option.map_eq_some_iff.mp e2
      have hqt := up_t b3 (ok.kt q (List.mem_of_getElem? hq))
      walk_at "yn"
      exact kp _ _ _ _ (by rw [hq]; rfl) (Same.refl _) .int S
    rw [hkvl, range_bind, fm_some] at hp3
    have e0 := ints_of hp3
    subst e0
    obtain ⟨B4, b4, hD4, S⟩ := S.frz 0 rfl hD
    try simp only [List.eraseIdx] at S
    have bb := b3.trans b4
    have hkany : (s1.kept.any fun p => decide (p.1 = evWho ev)) = decide (evWho ev ∈ x.ks.map (·.d)) := by
      rw [Bool.eq_iff_iff, List.any_eq_true, decide_eq_true_iff, List.mem_map, ok.ks]
      constructor
      · rintro ⟨p, hp, e⟩
        obtain ⟨q, hq, rfl⟩ := List.mem_map.mp hp
        exact ⟨q, hq, of_decide_eq_true e⟩
      · rintro ⟨q, hq, e⟩
        exact ⟨q.k, List.mem_map.mpr ⟨q, hq, rfl⟩, decide_eq_true e⟩
    walk_at "yy"
    refine y_ixT (S.t (up_t bb hta)) (atI_of (by decide) rfl) ?_
    walk_at "yy"
    refine y_ite (fun c => ?_) (fun c => ?_)
    · rw [decide_eq_true c, Bool.true_and] at k
      walk_at "yy"
      refine y_ixT (S.t (up_t bb hta)) (atI_of (by decide) rfl) ?_
      walk_at "yy"
      refine z_notInD (k := .inl (evWho ev)) (.inl (S.at 2 rfl)) rfl ?_
      rcases ok.find aok (evWho ev) with ⟨hf, hv⟩ | ⟨p, j, hj, hpd, hf, hv⟩
      · rw [hv, show (!(none : Option V).isSome) = true from rfl]
        rw [hf, hkany, show (!(none : Option Op).isSome) = true from rfl, Bool.true_and] at k
        walk_at "yy"
        refine y_ixT (S.t (up_t bb hta)) (atI_of (by decide) rfl) ?_
        walk_at "yy"
        refine y_notInN (S.l (sqL hD4)) ?_
        exact k B4 bb _ S
      · rw [hv, show (!(some (V.ref p.t)).isSome) = false from rfl]
        rw [hf, show (!(some p.op).isSome) = false from rfl, Bool.false_and] at k
        walk_at "yy"
        exact k B4 bb _ S
    · rw [decide_eq_false c, Bool.false_and] at k
      walk_at "yy"
      exact k B4 bb _ S
  have hde : IsDeed ev := ⟨h1, h2, h3⟩
  have hcan := hde.can s1 i0
  walk_at "yy"
  refine y_ixT (S.t hta) (atI_of (by decide) rfl) ?_
  walk_at "yy"
  refine z_inD (k := .inl (evWho ev)) (.inl (S.at 2 rfl)) rfl ?_
  rcases ok.find aok (evWho ev) with ⟨hf, hv⟩ | ⟨p, j, hj, hpd, hf, hv⟩
  · rw [hv, show (none : Option V).isSome = false from rfl]
    rw [hcan, hf] at k
    walk_at "yy"
    exact k B (Same.refl _) _ S
  · rw [hv, show (some (V.ref p.t)).isSome = true from rfl]
    rw [hcan, hf] at k
    walk_at "yy"
    refine y_spG (L := stL x s1.base) (R := []) (by rw [List.append_nil]; exact S) ⟨x, s1, U, n, p, .ref ta, ev, rfl, rfl, hev, hde, ok, aok, hn, hul, List.mem_of_getElem? hj, hpd, fun B2 b2 H T => ?_⟩
    obtain ⟨-, S, -⟩ := Sy.backG (R := []) (by rw [List.append_nil]; exact S) T
    rw [List.append_nil] at S
    exact k B2 b2 _ S
theorem ok_l_can (T : Tx w K mg) : Ok P w K mg base 4 "_law_can" ["state", "event", "at"] (spY (φ_lcan K)) :=
  Ok.of T.F_l_can T.g_l_can (fun _ _ _ _ _ _ us hl => match us, hl with | [_, _, _], _ => rfl) (fn_l_can T)
def φ_judged (K : PySem.W.Frag) : Ph := fun B vs L k => ∃ (a : Addr) (evs : List Ev) (U : List Str), vs = [.ref a] ∧ L = [] ∧ At (.list evC) K B (.ref a) evs ∧ (∀ e ∈ evs, EvOk U e) ∧ U.length ≤ 100 ∧ evs.length ≤ 900 ∧ ∀ B', Same B B' → k B' (jV (wroV evs)) []
theorem fn_l_judged (T : Tx w K mg) (fd : FuncData) (F : FunD K "_law_judged" "_law_judged" (defArgs s_l_judged) (defBody s_l_judged) (defScope s_l_judged) [] [] (He.ga K "_law_judged") fd) : FnOk P w K mg base CX0 5 (He.ga K "_law_judged") fd ["events"] (spY (φ_judged K)) := by
  refine fnM F sc_l_judged (fun B vs L k h => by obtain ⟨_, _, _, rfl, _⟩ := h; rfl) (fun cdv A outer s H vs Q E B L e hz he hr S h => ?_)
  obtain ⟨a, evs, U, rfl, rfl, hat, hok, hul, hnl, k⟩ := h
  refine ⟨_, (pss_cons (ps_set (i := 1) sc_l_judged.nd rfl (.inl rfl) (pe_callO0 (ok_l_new_state (K := K) T) (hr.mono (by decide)) (by rfl)))
      (pss_cons (ps_for PassesOwn.never rfl (pi_range1 (by rfl) T.n_range (pa_cons (pe_callB (call_lenU (K := K) rfl) (by rfl) T.n_len (by decide +kernel) (pa_cons (pv 0) pa_nil)) pa_nil)) (pg_name (i := 2) sc_l_judged.nd rfl (.inl rfl))
      (pss_cons (ps_if (pt_not (pt_val (pe_callO (ok_l_can (K := K) T) hr (by rfl) (pa_cons (pv 1) (pa_cons (pe_ix (ix_U (K := K) rfl (hu_of hr)) (pv 0) (pv 2) (fun _ _ => rfl)) (pa_cons (pv 2) pa_nil))))))
      (pss_one (ps_ret (pv 2)))
      pss_nil)
      (pss_one (ps_expr (pe_callO (ok_l_happens (K := K) T) (hr.mono (by decide)) (by rfl) (pa_cons (pv 1) (pa_cons (pe_ix (ix_U (K := K) rfl (hu_of hr)) (pv 0) (pv 2) (fun _ _ => rfl)) pa_nil)))))))
      (pss_one (ps_ret pe_non)))), ?_⟩
  walk_at "yn"
  obtain ⟨vs, hvs, hvp⟩ := at_list_ref hat
  have hvl : vs.length = evs.length := hvp.length
  walk_at "yn"
  refine y_sp0 S ⟨rfl, rfl, fun x B1 b1 hks hos xok H T => ?_⟩
  replace S := (Sy.backG (L := []) S T).2.1
  clear T
  replace S : Sy e B1 H (stL x AS.init.base) := by rw [List.append_nil] at S; exact S
  replace hvs := up_l b1 hvs
  walk_at "yn"
  rw [hvl]
  walk_at "yn"
  refine y_forR (fun i σ H => ∃ (B3 : Hp) (xa : SA) (s : AS), (∃ (y2 : Option V), σ = [some (.ref a), some (.ref x.st), y2]) ∧ Same B1 B3 ∧ Sy e B3 H (stL xa s.base) ∧ StOk K B3 xa s ∧ xa.st = x.st ∧ AS.Ok U i s ∧ s = (evs.take i).foldl AS.happens AS.init ∧ judged AS.init 0 (evs.take i) = none) ⟨B1, x, AS.init, ⟨_, rfl⟩, Same.refl _, S, xok, rfl, AS.Ok.init U, rfl, rfl⟩ ?_ ?_
  · clear S
    rintro i σ H hi ⟨B3, xa, s1, ⟨y2, rfl⟩, b3, S, xok, hwt, aok, hs, hj⟩
    rw [show ((evs.length : Int)).toNat = evs.length by omega] at hi
    obtain ⟨ev, hev⟩ : ∃ ev, evs[i]? = some ev := ⟨_, List.getElem?_eq_getElem hi⟩
    obtain ⟨v, hv, hvev⟩ := pr_get hvp hev
    have hev2 : ev ∈ evs := List.mem_of_getElem? hev
    have hvs3 := up_l b3 hvs
    have hat3 := hvev.up (b1.trans b3)
    have hi0 : i = 0 → s1.opn = [] ∧ s1.kept = [] := fun e => by
      subst e
      rw [hs]
      exact ⟨rfl, rfl⟩
    have hix : atI vs (0 + (i : Nat)) = some v := atI_of (by omega) (by rw [show ((0 : Int) + (i : Nat)).toNat = i by omega]; exact hv)
    walk_at "yn"
    refine y_ifS ?_
    walk_at "yy"
    refine y_ixL (S.l hvs3) hix ?_
    walk_at "yy"
    rw [← hwt]
    refine y_spG (L := stL xa s1.base) (R := []) (by rw [List.append_nil]; exact S) ⟨xa, s1, U, i, i, v, ev, by rw [Int.zero_add]; rfl, rfl, hat3, xok, aok, by omega, hul, fun B5 b5 H T => ?_⟩
    replace S := (Sy.backG (R := []) (by rw [List.append_nil]; exact S) T).2.1
    clear T
    rw [List.append_nil] at S
    cases hc : s1.canB i ev with
    | false =>
      walk_at "yy"
      have := k B5 (b1.trans (b3.trans b5))
      rw [show wroV evs = some i from judged_at hj hev (by rw [← hs]; exact hc)] at this
      rw [Int.zero_add]
      exact this _ S.none
    | true =>
      walk_at "yy"
      refine y_ixL (S.l (up_l b5 hvs3)) hix ?_
      walk_at "yy"
      refine y_spG (L := stL xa s1.base) (R := []) (by rw [List.append_nil]; exact S) ⟨xa, s1, U, i, i, v, ev, rfl, rfl, hat3.up b5, xok.up b5, aok, hok ev hev2, by omega, hc, fun xb B6 b6 hxb hok6 H T => ?_⟩
      replace S := (Sy.backG (R := []) (by rw [List.append_nil]; exact S) T).2.1
      clear T
      rw [List.append_nil] at S
      walk_at "yy"
      refine ⟨B6, xb, s1.happens ev, ⟨_, rfl⟩, b3.trans (b5.trans b6), S, hok6, hxb, aok.step (hok ev hev2) hc hi0, ?_, ?_⟩
      · rw [take_get hev, List.foldl_append, ← hs]
        rfl
      · rw [take_get hev]
        refine judged_snoc hj ?_
        rw [← hs, show 0 + (evs.take i).length = i by rw [List.length_take]; omega]
        exact hc
  clear S
  rintro σ H ⟨B3, xa, s1, ⟨y2, rfl⟩, b3, S, xok, hwt, aok, hs, hj⟩
  rw [show ((evs.length : Int)).toNat = evs.length by omega, List.take_length] at hj
  walk_at "yn"
  have := k B3 (b1.trans b3)
  rw [show wroV evs = none from hj] at this
  exact this _ S.none
theorem ok_l_judged (T : Tx w K mg) : Ok P w K mg base 5 "_law_judged" ["events"] (spY (φ_judged K)) :=
  Ok.of T.F_l_judged T.g_l_judged (fun _ _ _ _ _ _ us hl => match us, hl with | [_], _ => rfl) (fn_l_judged T)

/-! ### histories put otherwise -/
theorem z_slM {α : Type} {c : Cod α} {e : En} {B H : Hp} {L : Led} {Q : VK} {p : Addr} {zs : List α} {lo hi : Option Int} (S : Sy e B H L) (h : At (.list c) K B (.ref p) zs) (q : ∀ t zs' B' H', Same B B' → At (.list c) K B' (.ref t) zs' → (∀ z ∈ zs', z ∈ zs) → zs'.length ≤ zs.length → Sy e B' H' L → Q (.ref t) H') : rSlU K (.ref p) lo hi H Q := by
  obtain ⟨v1, q1, p1⟩ := at_list_ref h
  refine y_slL (S.l q1) ?_
  refine y_newI S fun t B1 H b1 ht _ S => ?_
  exact q t ((zs.drop (HT.sIx v1.length 0 lo)).take (HT.sIx v1.length v1.length hi - HT.sIx v1.length 0 lo)) B1 H b1 (.list (sqL ht) (pr_take _ (pr_drop _ (pr_up at_up b1 p1)))) (fun z hz => List.mem_of_mem_drop (List.mem_of_mem_take hz)) (by rw [List.length_take, List.length_drop]; omega) S
def φ_rowturn (K : PySem.W.Frag) : Ph := fun B vs L k => ∃ (b : Addr) (o : HO) (ra ka : Addr) (rows : List (Str × Int)) (zs : List Str) (n : Nat), vs = [.ref b, .ref ra, .ref ka] ∧ L = [(b, o)] ∧ Bag (n + 10) o ∧ At rwC K B (.ref ra) rows ∧ rows.length ≤ 400 ∧ At cS K B (.ref ka) zs ∧ 0 < zs.length ∧ zs.length ≤ 20 ∧ ∀ t rows' o' B', Same B B' → At rwC K B' (.ref t) rows' → rows'.length ≤ 3 * rows.length + 1 → Bag n o' → k B' (.ref t) [(b, o')]
theorem fn_l_row_turned (T : Tx w K mg) (fd : FuncData) (F : FunD K "_law_row_turned" "_law_row_turned" (defArgs s_l_row_turned) (defBody s_l_row_turned) (defScope s_l_row_turned) [] [] (He.ga K "_law_row_turned") fd) : FnOk P w K mg base CX0 4 (He.ga K "_law_row_turned") fd ["well", "rows", "keys"] (spY (φ_rowturn K)) := by
  refine fnM F sc_l_row_turned (fun B vs L k h => by obtain ⟨_, _, _, _, _, _, _, rfl, _⟩ := h; rfl) (fun cdv A outer s H vs Q E B L e hz he hr S h => ?_)
  obtain ⟨bg, o, ra, ka, rows, zs, n, rfl, rfl, hb, hra, hrl, hka, hz0, hz1, k⟩ := h
  refine ⟨_, (pss_cons (ps_set (i := 3) sc_l_row_turned.nd rfl (.inl rfl) (pe_callO (ok_l_draw (K := K) T) (hr.mono (by decide)) (by rfl) (pa_cons (pv 0) (pa_cons pe_int pa_nil))))
      (pss_cons (ps_set (i := 4) sc_l_row_turned.nd rfl (.inl rfl) (pe_callO (ok_l_draw (K := K) T) (hr.mono (by decide)) (by rfl) (pa_cons (pv 0) (pa_cons (pe_op (op_addZ (K := K) rfl) (pe_callB (call_lenU (K := K) rfl) (by rfl) T.n_len (by decide +kernel) (pa_cons (pv 1) pa_nil)) pe_int) pa_nil))))
      (pss_cons (ps_set (i := 5) sc_l_row_turned.nd rfl (.inr rfl) (pe_tup (pa_cons (pe_ix (ix_U (K := K) rfl (hu_of hr)) (pv 2) (pe_callO (ok_l_draw (K := K) T) (hr.mono (by decide)) (by rfl) (pa_cons (pv 0) (pa_cons (pe_callB (call_lenU (K := K) rfl) (by rfl) T.n_len (by decide +kernel) (pa_cons (pv 2) pa_nil)) pa_nil))) (fun _ _ => rfl)) (pa_cons (pe_callO (ok_l_worth (K := K) T) hr (by rfl) (pa_cons (pv 0) pa_nil)) pa_nil))))
      (pss_cons (ps_if (pt_cmpR (op_eqZ (K := K) rfl hr.units) (pv 3) pe_int (nomark _))
      (pss_one (ps_ret (pe_op (op_addZ (K := K) rfl) (pe_op (op_addZ (K := K) rfl) (pe_slice (sl_U (K := K) rfl) (pv 1) po_none (po_some (pv 4))) (pe_lst (pa_cons (pv 5) pa_nil))) (pe_slice (sl_U (K := K) rfl) (pv 1) (po_some (pv 4)) po_none))))
      pss_nil)
      (pss_cons (ps_if (pt_cmpR (op_eqZ (K := K) rfl hr.units) (pv 3) pe_int (nomark _))
      (pss_one (ps_ret (pe_op (op_addZ (K := K) rfl) (pe_slice (sl_U (K := K) rfl) (pv 1) po_none (po_some (pv 4))) (pe_slice (sl_U (K := K) rfl) (pv 1) (po_some (pe_op (op_addZ (K := K) rfl) (pv 4) pe_int)) po_none))))
      pss_nil)
      (pss_cons (ps_if (pt_cmpR (op_eqZ (K := K) rfl hr.units) (pv 3) pe_int (nomark _))
      (pss_one (ps_ret (pe_op (op_addZ (K := K) rfl) (pe_op (op_addZ (K := K) rfl) (pe_slice (sl_U (K := K) rfl) (pv 1) po_none (po_some (pv 4))) (pe_revK (K := K) rfl (pe_slice (sl_U (K := K) rfl) (pv 1) (po_some (pv 4)) (po_some (pe_op (op_addZ (K := K) rfl) (pv 4) pe_int))))) (pe_slice (sl_U (K := K) rfl) (pv 1) (po_some (pe_op (op_addZ (K := K) rfl) (pv 4) pe_int)) po_none))))
      pss_nil)
      (pss_one (ps_ret (pe_op (op_addZ (K := K) rfl) (pe_op (op_addZ (K := K) rfl) (pe_slice (sl_U (K := K) rfl) (pv 1) po_none (po_some (pv 4))) (pe_lc (own := [("row", 6)]) (by rfl) sc_l_row_turned.nd (pi_listK (K := K) rfl (pe_slice (sl_U (K := K) rfl) (pv 1) (po_some (pv 4)) (po_some (pe_op (op_addZ (K := K) rfl) (pv 4) pe_int)))) (blkOk_by (own := [("row", 6)]) (N := ["well", "rows", "keys", "pick", "at", "one", "row"]) (sc := defScope s_l_row_turned) (by decide +kernel)) (fun _ _ _ _ _ => (pg_name (i := 6) sc_l_row_turned.nd rfl (.inl rfl))) (fun _ _ _ _ _ => pts_nil) (fun _ _ _ _ _ => (pe_tup (pa_cons (pe_ix (ix_U (K := K) rfl (hu_of hr)) (pv 6) pe_int (fun _ _ => rfl)) (pa_cons (pe_ix (ix_U (K := K) rfl (hu_of hr)) (pv 5) pe_int (fun _ _ => rfl)) pa_nil)))))) (pe_slice (sl_U (K := K) rfl) (pv 1) (po_some (pe_op (op_addZ (K := K) rfl) (pv 4) pe_int)) po_none)))))))))), ?_⟩
  walk_at "yn"
  obtain ⟨rv, hrv, hrp⟩ := at_list_ref hra
  have hrvl : rv.length = rows.length := hrp.length
  obtain ⟨zv, hzv, hzp⟩ := at_list_ref hka
  have hzvl : zv.length = zs.length := hzp.length
  walk_at "yn"
  refine y_drawN 0 S rfl hb (by omega) (by omega) (by omega) fun pick o H pick0 pick1 hb S => ?_
  try simp only [List.set] at S
  walk_at "yn"
  rw [hrvl]
  refine y_drawN 0 S rfl hb (by omega) (by omega) (by omega) fun at_ o H at_0 at_1 hb S => ?_
  try simp only [List.set] at S
  walk_at "yn"
  rw [hzvl]
  refine y_drawN 0 S rfl hb (by omega) (by omega) (by omega) fun ki o H ki0 ki1 hb S => ?_
  try simp only [List.set] at S
  walk_at "yn"
  refine y_ixC S hka (by omega) (by omega) fun v key hkey hv => ?_
  have e1 := at_str hv
  subst e1
  walk_at "yn"
  refine y_spN 0 S rfl ⟨bg, o, n, rfl, rfl, hb.mono (by omega), fun w0 o B1 b1 hb H T => ?_⟩
  replace S := S.backN1 0 rfl T
  clear T
  try simp only [List.set] at S
  walk_at "yn"
  refine y_newI S fun one B2 H b2 hone _ S => ?_
  have b12 := b1.trans b2
  have hra2 := hra.up b12
  have hon : At (.tup2 .str .int) K B2 (.ref one) (key, w0) := .tup2 (sqT hone) .str .int
  walk_at "yn"
  refine y_ifS ?_
  walk_at "yy"
  refine y_iteI (fun c => ?_) (fun c => ?_)
  · walk_at "yy"
    refine z_slM S hra2 fun t1 r1 B3 H b3 h1 _ l1 S => ?_
    walk_at "yy"
    refine y_newI S fun ol B4 H b4 hol _ S => ?_
    refine z_catC S (h1.up b4) (At.list (sqL hol) (.cons (hon.up (b3.trans b4)) .nil)) (by rw [List.length_singleton]; omega) fun t2 B5 H b5 h2 S => ?_
    walk_at "yy"
    refine z_slM S (hra2.up (b3.trans (b4.trans b5))) fun t3 r3 B6 H b6 h3 _ l3 S => ?_
    refine z_catC S (h2.up b6) h3 (by rw [List.length_append, List.length_singleton]; omega) fun t4 B7 H b7 h4 S => ?_
    exact k t4 _ o B7 (by walk_at "up") h4 (by rw [List.length_append, List.length_append, List.length_singleton]; omega) (hb.mono (by omega)) _ S
  walk_at "yy"
  refine y_iteI (fun c => ?_) (fun c => ?_)
  · walk_at "yy"
    refine z_slM S hra2 fun t1 r1 B3 H b3 h1 _ l1 S => ?_
    walk_at "yy"
    refine z_slM S (hra2.up b3) fun t3 r3 B6 H b6 h3 _ l3 S => ?_
    refine z_catC S (h1.up b6) h3 (by omega) fun t4 B7 H b7 h4 S => ?_
    exact k t4 _ o B7 (by walk_at "up") h4 (by rw [List.length_append]; omega) (hb.mono (by omega)) _ S
  walk_at "yy"
  refine y_iteI (fun c => ?_) (fun c => ?_)
  · walk_at "yy"
    refine z_slM S hra2 fun t1 r1 B3 H b3 h1 _ l1 S => ?_
    walk_at "yy"
    refine z_slM S (hra2.up b3) fun t3 r3 B6 H b6 h3 _ l3 S => ?_
    refine y_revC S h3 fun t4 B7 H b7 h4 S => ?_
    refine z_catC S (h1.up (b6.trans b7)) h4 (by rw [List.length_reverse]; omega) fun t5 B8 H b8 h5 S => ?_
    walk_at "yy"
    refine z_slM S (hra2.up (b3.trans (b6.trans (b7.trans b8)))) fun t6 r6 B9 H b9 h6 _ l6 S => ?_
    refine z_catC S (h5.up b9) h6 (by rw [List.length_append, List.length_reverse]; omega) fun t7 B10 H b10 h7 S => ?_
    exact k t7 _ o B10 (by walk_at "up") h7 (by rw [List.length_append, List.length_append, List.length_reverse]; omega) (hb.mono (by omega)) _ S
  walk_at "yy"
  refine z_slM S hra2 fun t1 r1 B3 H b3 h1 _ l1 S => ?_
  walk_at "yy"
  refine z_slM S (hra2.up b3) fun t3 r3 B6 H b6 h3 _ l3 S => ?_
  obtain ⟨v3, hv3, hp3⟩ := at_list_ref h3
  replace hone := up_o (b3.trans b6) hone
  walk_at "yy"
  refine y_lcI (cx := .tup2 .str .int) (cy := .tup2 .str .int) (fun r => some (r.1, w0)) S h3 (by omega) (fun i z x B7 H7 D acc Kp Kn hz b7 hx S kp kn => ?_) (fun D B7 H b7 hD h7 S => ?_)
  · obtain ⟨t, x1, x2, rfl, ht, hx1, hx2⟩ := at_tup2 hx
    have e1 := at_str hx1
    subst e1
    replace hone := up_o b7 hone
    walk_at "yn"
    refine y_newI S fun t8 B8 H b8 ht8 _ S => ?_
    exact kp _ _ _ _ rfl b8 (.tup2 (sqT ht8) .str .int) S
  rw [fm_some] at h7
  refine z_catC S (h1.up (b6.trans b7)) h7 (by rw [List.length_map]; omega) fun t5 B8 H b8 h5 S => ?_
  walk_at "yy"
  refine z_slM S (hra2.up (b3.trans (b6.trans (b7.trans b8)))) fun t6 r6 B9 H b9 h6 _ l6 S => ?_
  refine z_catC S (h5.up b9) h6 (by rw [List.length_append, List.length_map]; omega) fun t9 B10 H b10 h9 S => ?_
  exact k t9 _ o B10 (by walk_at "up") h9 (by rw [List.length_append, List.length_append, List.length_map]; omega) (hb.mono (by omega)) _ S
theorem ok_l_row_turned (T : Tx w K mg) : Ok P w K mg base 4 "_law_row_turned" ["well", "rows", "keys"] (spY (φ_rowturn K)) :=
  Ok.of T.F_l_row_turned T.g_l_row_turned (fun _ _ _ _ _ _ us hl => match us, hl with | [_, _, _], _ => rfl) (fn_l_row_turned T)
def φ_near : Ph := fun B vs L k => ∃ (b : Addr) (o : HO) (i : Int) (n : Nat), vs = [.ref b, .int i] ∧ L = [(b, o)] ∧ Bag (n + 1) o ∧ ∀ j o', Bag n o' → k B (.int j) [(b, o')]
theorem fn_l_near (T : Tx w K mg) (fd : FuncData) (F : FunD K "_law_near" "_law_near" (defArgs s_l_near) (defBody s_l_near) (defScope s_l_near) [] [] (He.ga K "_law_near") fd) : FnOk P w K mg base CX0 3 (He.ga K "_law_near") fd ["well", "number"] (spY φ_near) := by
  refine fnM F sc_l_near (fun B vs L k h => by obtain ⟨_, _, _, _, rfl, _⟩ := h; rfl) (fun cdv A outer s H vs Q E B L e hz he hr S h => ?_)
  obtain ⟨bg, o, i, n, rfl, rfl, hb, k⟩ := h
  refine ⟨_, (pss_one (ps_ret (pe_op op_subU (pe_op (op_addU (K := K) rfl) (pv 1) (pe_callO (ok_l_draw (K := K) T) hr (by rfl) (pa_cons (pv 0) (pa_cons pe_int pa_nil)))) pe_int))), ?_⟩
  walk_at "yn"
  refine y_drawN 0 S rfl hb (by omega) (by omega) (by omega) fun d o H d0 d1 hb S => ?_
  try simp only [List.set] at S
  walk_at "yn"
  exact k _ _ (hb.mono (by omega)) _ S
theorem ok_l_near (T : Tx w K mg) : Ok P w K mg base 3 "_law_near" ["well", "number"] (spY φ_near) :=
  Ok.of T.F_l_near T.g_l_near (fun _ _ _ _ _ _ us hl => match us, hl with | [_, _], _ => rfl) (fn_l_near T)
/-- an event by its parts -/
theorem ev_of {B : Hp} {t : Addr} {ws : List V} {ev : Ev} (ht : SqT K B t (.str (evTag ev) :: ws)) (h : evRest K B ws ev) : At evC K B (.ref t) ev := by
  show Dp K B (.ref t) (evD ev)
  rw [evD_eq]
  refine .tup ht (.cons (.str _) ?_)
  cases ev with
  | begin d => obtain rfl : ws = _ := h; exact .cons (.int _) .nil
  | undo d => obtain rfl : ws = _ := h; exact .cons (.int _) .nil
  | fall d => obtain rfl : ws = _ := h; exact .cons (.int _) .nil
  | drop d key => obtain rfl : ws = _ := h; exact .cons (.int _) (.cons (.str _) .nil)
  | back d m => obtain rfl : ws = _ := h; exact .cons (.int _) (.cons (.int _) .nil)
  | mark d m => obtain rfl : ws = _ := h; exact .cons (.int _) (.cons (.int _) .nil)
  | keep d m => obtain rfl : ws = _ := h; exact .cons (.int _) (.cons (.int _) .nil)
  | put d key m => obtain rfl : ws = _ := h; exact .cons (.int _) (.cons (.str _) (.cons (.int _) .nil))
  | read d key m => obtain rfl : ws = _ := h; exact .cons (.int _) (.cons (.str _) (.cons (atOptI m) .nil))
  | raised d rows => obtain ⟨ra, rfl, hra⟩ := h; exact .cons (.int _) (.cons hra .nil)
  | scan d lo hi rows => obtain ⟨ra, rfl, hra⟩ := h; exact .cons (.int _) (.cons (.str _) (.cons (.str _) (.cons hra .nil)))
def EvL (n : Nat) (ev : Ev) : Prop := ∀ d lo hi rows, ev = .scan d lo hi rows → rows.length ≤ n
theorem EvL.mono {n m : Nat} {ev : Ev} (h : EvL n ev) (l : n ≤ m) : EvL m ev := fun d lo hi rows e => Nat.le_trans (h d lo hi rows e) l
structure Evo (U : List Str) (n : Nat) (ev : Ev) : Prop where
  ok : EvOk U ev
  l : EvL n ev
theorem Evo.mono {U : List Str} {n m : Nat} {ev : Ev} (h : Evo U n ev) (l : n ≤ m) : Evo U m ev := ⟨h.ok, h.l.mono l⟩
theorem Evo.other {U : List Str} {n : Nat} {ev : Ev} (h1 : ∀ n rows, ev ≠ .raised n rows) (h2 : ∀ d key w, ev ≠ .put d key w) (h3 : ∀ d key, ev ≠ .drop d key) (h4 : ∀ d lo hi rows, ev ≠ .scan d lo hi rows) : Evo U n ev := ⟨evok_other h1 h2 h3, fun d lo hi rows e => absurd e (h4 d lo hi rows)⟩
theorem Evo.put {U : List Str} {n : Nat} {d : Int} {key : Str} {w : Int} (h : key ∈ U) : Evo U n (.put d key w) := ⟨⟨(by intro _ _ z; cases z), fun d key' w z => (by cases z; exact h), (by intro _ _ z; cases z)⟩, (by intro _ _ _ _ z; cases z)⟩
theorem Evo.drop {U : List Str} {n : Nat} {d : Int} {key : Str} (h : key ∈ U) : Evo U n (.drop d key) := ⟨⟨(by intro _ _ z; cases z), (by intro _ _ _ z; cases z), fun d key' z => (by cases z; exact h)⟩, (by intro _ _ _ _ z; cases z)⟩
theorem Evo.scan {U : List Str} {n : Nat} {d : Int} {lo hi : Str} {rows : List (Str × Int)} (h : rows.length ≤ n) : Evo U n (.scan d lo hi rows) := ⟨evok_other (by intros; simp) (by intros; simp) (by intros; simp), fun _ _ _ _ z => (by cases z; exact h)⟩
/-- an event with one part put otherwise -/
def NewPart (K : PySem.W.Frag) (B : Hp) (U : List Str) (n : Nat) (ev : Ev) (ws : List V) : Prop := ∃ ev', evTag ev' = evTag ev ∧ evRest K B ws ev' ∧ Evo U n ev'
/-- what a part of an event is, and what may stand in its place -/
inductive PartIs (K : PySem.W.Frag) (B : Hp) (U : List Str) (n : Nat) (ev : Ev) (ws : List V) (j : Nat) : V → Prop where
  | int (i : Int) (h : ∀ i', NewPart K B U n ev (ws.set j (.int i'))) (h2 : evTag ev = "read" → j = 2 → NewPart K B U n ev (ws.set j .non)) : PartIs K B U n ev ws j (.int i)
  | non (h : ∀ i', NewPart K B U n ev (ws.set j (.int i'))) : PartIs K B U n ev ws j .non
  | str (z : Str) (h : ∀ z', evTag ev = "scan" ∨ z' ∈ U → NewPart K B U n ev (ws.set j (.str z'))) : PartIs K B U n ev ws j (.str z)
  | rows (ra : Addr) (rows : List (Str × Int)) (hr : At rwC K B (.ref ra) rows) (hl : rows.length ≤ n) (h : ∀ rb rows' B', Same B B' → At rwC K B' (.ref rb) rows' → rows'.length ≤ 3 * n + 1 → NewPart K B' U (3 * n + 1) ev (ws.set j (.ref rb))) : PartIs K B U n ev ws j (.ref ra)
theorem part_is {B : Hp} {U : List Str} {n : Nat} {ev : Ev} {ws : List V} {j : Nat} {v : V} (hr : evTag ev ≠ "raised") (h : evRest K B ws ev) (ho : Evo U n ev) (hj : ws[j]? = some v) : PartIs K B U n ev ws j v := by
  have small : ∀ {ds : List V} {x y : V}, ds.length = 0 → ds[0]? = some x → False := fun h1 h2 => by
    rw [List.length_eq_zero_iff.mp h1] at h2; cases h2
  cases ev with
  | raised => exact absurd rfl hr
  | begin d =>
    obtain rfl : ws = _ := h
    match j, hj with
    | 0, hj => cases hj; exact .int _ (fun i' => ⟨.begin i', rfl, rfl, .other (by intros; simp) (by intros; simp) (by intros; simp) (by intros; simp)⟩) (fun z => absurd z (by simp only [evTag]; decide))
  | undo d =>
    obtain rfl : ws = _ := h
    match j, hj with
    | 0, hj => cases hj; exact .int _ (fun i' => ⟨.undo i', rfl, rfl, .other (by intros; simp) (by intros; simp) (by intros; simp) (by intros; simp)⟩) (fun z => absurd z (by simp only [evTag]; decide))
  | fall d =>
    obtain rfl : ws = _ := h
    match j, hj with
    | 0, hj => cases hj; exact .int _ (fun i' => ⟨.fall i', rfl, rfl, .other (by intros; simp) (by intros; simp) (by intros; simp) (by intros; simp)⟩) (fun z => absurd z (by simp only [evTag]; decide))
  | back d m =>
    obtain rfl : ws = _ := h
    match j, hj with
    | 0, hj => cases hj; exact .int _ (fun i' => ⟨.back i' m, rfl, rfl, .other (by intros; simp) (by intros; simp) (by intros; simp) (by intros; simp)⟩) (fun z => absurd z (by simp only [evTag]; decide))
    | 1, hj => cases hj; exact .int _ (fun i' => ⟨.back d i', rfl, rfl, .other (by intros; simp) (by intros; simp) (by intros; simp) (by intros; simp)⟩) (fun z => absurd z (by simp only [evTag]; decide))
  | mark d m =>
    obtain rfl : ws = _ := h
    match j, hj with
    | 0, hj => cases hj; exact .int _ (fun i' => ⟨.mark i' m, rfl, rfl, .other (by intros; simp) (by intros; simp) (by intros; simp) (by intros; simp)⟩) (fun z => absurd z (by simp only [evTag]; decide))
    | 1, hj => cases hj; exact .int _ (fun i' => ⟨.mark d i', rfl, rfl, .other (by intros; simp) (by intros; simp) (by intros; simp) (by intros; simp)⟩) (fun z => absurd z (by simp only [evTag]; decide))
  | keep d m =>
    obtain rfl : ws = _ := h
    match j, hj with
    | 0, hj => cases hj; exact .int _ (fun i' => ⟨.keep i' m, rfl, rfl, .other (by intros; simp) (by intros; simp) (by intros; simp) (by intros; simp)⟩) (fun z => absurd z (by simp only [evTag]; decide))
    | 1, hj => cases hj; exact .int _ (fun i' => ⟨.keep d i', rfl, rfl, .other (by intros; simp) (by intros; simp) (by intros; simp) (by intros; simp)⟩) (fun z => absurd z (by simp only [evTag]; decide))
  | drop d key =>
    obtain rfl : ws = _ := h
    have hk := ho.ok.dk d key rfl
    match j, hj with
    | 0, hj => cases hj; exact .int _ (fun i' => ⟨.drop i' key, rfl, rfl, .drop hk⟩) (fun z => absurd z (by simp only [evTag]; decide))
    | 1, hj => cases hj; exact .str _ (fun z' hz => ⟨.drop d z', rfl, rfl, .drop (hz.resolve_left (by simp only [evTag]; decide))⟩)
  | put d key m =>
    obtain rfl : ws = _ := h
    have hk := ho.ok.pk d key m rfl
    match j, hj with
    | 0, hj => cases hj; exact .int _ (fun i' => ⟨.put i' key m, rfl, rfl, .put hk⟩) (fun z => absurd z (by simp only [evTag]; decide))
    | 1, hj => cases hj; exact .str _ (fun z' hz => ⟨.put d z' m, rfl, rfl, .put (hz.resolve_left (by simp only [evTag]; decide))⟩)
    | 2, hj => cases hj; exact .int _ (fun i' => ⟨.put d key i', rfl, rfl, .put hk⟩) (fun z => absurd z (by simp only [evTag]; decide))
  | read d key m =>
    obtain rfl : ws = _ := h
    match j, hj with
    | 0, hj => cases hj; exact .int _ (fun i' => ⟨.read i' key m, rfl, rfl, .other (by intros; simp) (by intros; simp) (by intros; simp) (by intros; simp)⟩) (fun _ z => absurd z (by decide))
    | 1, hj => cases hj; exact .str _ (fun z' hz => ⟨.read d z' m, rfl, rfl, .other (by intros; simp) (by intros; simp) (by intros; simp) (by intros; simp)⟩)
    | 2, hj =>
      cases m with
      | none => cases hj; exact .non (fun i' => ⟨.read d key (some i'), rfl, rfl, .other (by intros; simp) (by intros; simp) (by intros; simp) (by intros; simp)⟩)
      | some m => cases hj; exact .int _ (fun i' => ⟨.read d key (some i'), rfl, rfl, .other (by intros; simp) (by intros; simp) (by intros; simp) (by intros; simp)⟩) (fun _ _ => ⟨.read d key none, rfl, rfl, .other (by intros; simp) (by intros; simp) (by intros; simp) (by intros; simp)⟩)
  | scan d lo hi rows =>
    obtain ⟨ra, rfl, hra⟩ := h
    have hl := ho.l d lo hi rows rfl
    match j, hj with
    | 0, hj => cases hj; exact .int _ (fun i' => ⟨.scan i' lo hi rows, rfl, ⟨ra, rfl, hra⟩, .scan hl⟩) (fun z => absurd z (by simp only [evTag]; decide))
    | 1, hj => cases hj; exact .str _ (fun z' hz => ⟨.scan d z' hi rows, rfl, ⟨ra, rfl, hra⟩, .scan hl⟩)
    | 2, hj => cases hj; exact .str _ (fun z' hz => ⟨.scan d lo z' rows, rfl, ⟨ra, rfl, hra⟩, .scan hl⟩)
    | 3, hj => cases hj; exact .rows ra rows hra hl (fun rb rows' B' b hrb hl' => ⟨.scan d lo hi rows', rfl, ⟨rb, rfl, hrb⟩, .scan hl'⟩)
theorem NewPart.up {B B' : Hp} {U : List Str} {n : Nat} {ev : Ev} {ws : List V} (b : Same B B') (h : NewPart K B U n ev ws) : NewPart K B' U n ev ws := by
  obtain ⟨ev', h1, h2, h3⟩ := h
  exact ⟨ev', h1, h2.up b, h3⟩

/-! ### + of tuples, one of them empty perhaps -/
def rAddA (K : PySem.W.Frag) : R2 := fun x y H Q => rAddU K x y H Q ∨ rCatA K x y H Q
theorem op_addA {X : Cx} (hK : X.K = K) : OpR X (binaryOp .Add) (rAddA K) := OpR.or (op_addU hK) (hK ▸ op_catA)
theorem a_addI {H : Hp} {Q : VK} {i j : Int} (q : Q (.int (i + j)) H) : rAddA K (.int i) (.int j) H Q := .inl (y_addI q)
theorem a_cat {e : En} {B H : Hp} {L : Led} {Q : VK} {a b : Addr} {xs ys : List V} (S : Sy e B H L) (h1 : SqT K B a xs) (h2 : SqT K B b ys) (hl : xs.length + ys.length ≤ 100000) (q : ∀ t B' H', Same B B' → SqT K B' t (xs ++ ys) → Sy e B' H' L → Q (.ref t) H') : rAddA K (.ref a) (.ref b) H Q := by
  refine .inr ⟨a, b, xs, ys, rfl, rfl, S.t h1, S.t h2, lenOk hl, fun z => ?_, fun z1 z2 => ?_, fun z1 z2 => ?_⟩
  · subst z
    exact q b B H (Same.refl _) h2 S
  · subst z2
    exact q a B H (Same.refl _) (by rw [List.append_nil]; exact h1) S
  · refine y_newI S fun t B1 H b1 ht _ S => ?_
    exact q t B1 H b1 (sqT ht) S
local macro_rules | `(tactic| walk_at "y") => `(tactic| with_reducible refine a_addI ?_)
theorem evRest.len {B : Hp} {ws : List V} {ev : Ev} (h : evRest K B ws ev) : 1 ≤ ws.length ∧ ws.length ≤ 4 := by
  cases ev with
  | scan d lo hi rows => obtain ⟨a, rfl, h⟩ := h; exact ⟨by simp, by simp⟩
  | raised d rows => obtain ⟨a, rfl, h⟩ := h; exact ⟨by simp, by simp⟩
  | _ => obtain rfl : ws = _ := h; exact ⟨by simp, by simp⟩
def φ_evturn (K : PySem.W.Frag) : Ph := fun B vs L k => ∃ (b : Addr) (o : HO) (v : V) (ev : Ev) (ka na : Addr) (zs : List Str) (ns : List Int) (n m : Nat), vs = [.ref b, v, .ref ka, .ref na] ∧ L = [(b, o)] ∧ Bag (m + 30) o ∧ At evC K B v ev ∧ Evo zs n ev ∧ n ≤ 400 ∧ At cS K B (.ref ka) zs ∧ 0 < zs.length ∧ zs.length ≤ 20 ∧ (∀ z ∈ zs, KeyS z) ∧ At (.list .int) K B (.ref na) ns ∧ 0 < ns.length ∧ ns.length ≤ 100000 ∧ ∀ v' ev' o' B', Same B B' → At evC K B' v' ev' → Evo zs (3 * n + 1) ev' → Bag m o' → k B' v' [(b, o')]
theorem fn_l_event_turned (T : Tx w K mg) (fd : FuncData) (F : FunD K "_law_event_turned" "_law_event_turned" (defArgs s_l_event_turned) (defBody s_l_event_turned) (defScope s_l_event_turned) [] [] (He.ga K "_law_event_turned") fd) : FnOk P w K mg base CX0 5 (He.ga K "_law_event_turned") fd ["well", "event", "keys", "numbers"] (spY (φ_evturn K)) := by
  refine fnM F sc_l_event_turned (fun B vs L k h => by obtain ⟨_, _, _, _, _, _, _, _, _, _, rfl, _⟩ := h; rfl) (fun cdv A outer s H vs Q E B L e hz he hr S h => ?_)
  obtain ⟨bg, o, v, ev, ka, na, zs, ns, n, m, rfl, rfl, hb, hev, ho, hn, hka, hz0, hz1, hzk, hna, hn0, hn1, k⟩ := h
  refine ⟨_, (pss_cons (ps_set (i := 4) sc_l_event_turned.nd rfl (.inl rfl) (pe_ix (ix_U (K := K) rfl (hu_of hr)) (pv 1) pe_int (fun _ _ => rfl)))
      (pss_cons (ps_if (pt_cmpR (op_eqZ (K := K) rfl hr.units) (pv 4) pe_str (nomark _))
      (pss_one (ps_ret (pe_tup (pa_cons (pv 4) (pa_cons (pe_op (op_addA (K := K) rfl) (pe_ix (ix_U (K := K) rfl (hu_of hr)) (pv 1) pe_int (fun _ _ => rfl)) (pe_callO (ok_l_draw (K := K) T) (hr.mono (by decide)) (by rfl) (pa_cons (pv 0) (pa_cons pe_int pa_nil)))) (pa_cons (pe_ix (ix_U (K := K) rfl (hu_of hr)) (pv 1) pe_int (fun _ _ => rfl)) pa_nil))))))
      pss_nil)
      (pss_cons (ps_set (i := 5) sc_l_event_turned.nd rfl (.inl rfl) (pe_op (op_addA (K := K) rfl) pe_int (pe_callO (ok_l_draw (K := K) T) (hr.mono (by decide)) (by rfl) (pa_cons (pv 0) (pa_cons (pe_op op_subU (pe_callB (call_lenU (K := K) rfl) (by rfl) T.n_len (by decide +kernel) (pa_cons (pv 1) pa_nil)) pe_int) pa_nil)))))
      (pss_cons (ps_set (i := 6) sc_l_event_turned.nd rfl (.inl rfl) (pe_ix (ix_U (K := K) rfl (hu_of hr)) (pv 2) (pe_callO (ok_l_draw (K := K) T) (hr.mono (by decide)) (by rfl) (pa_cons (pv 0) (pa_cons (pe_callB (call_lenU (K := K) rfl) (by rfl) T.n_len (by decide +kernel) (pa_cons (pv 2) pa_nil)) pa_nil))) (fun _ _ => rfl)))
      (pss_cons (ps_set (i := 7) sc_l_event_turned.nd rfl (.inl rfl) (pe_ix (ix_U (K := K) rfl (hu_of hr)) (pv 3) (pe_callO (ok_l_draw (K := K) T) (hr.mono (by decide)) (by rfl) (pa_cons (pv 0) (pa_cons (pe_callB (call_lenU (K := K) rfl) (by rfl) T.n_len (by decide +kernel) (pa_cons (pv 3) pa_nil)) pa_nil))) (fun _ _ => rfl)))
      (pss_cons (ps_set (i := 8) sc_l_event_turned.nd rfl (.inl rfl) (pe_ix (ix_U (K := K) rfl (hu_of hr)) (pv 1) (pv 5) (fun _ _ => rfl)))
      (pss_cons (ps_if (pt_val (pe_callB (call_isiZ (K := K) rfl) (by rfl) T.n_isinstance (by decide +kernel) (pa_cons (pv 8) (pa_cons (pe_bltn (v := .ty "list") (u := .type "list") (by rfl) T.n_list (by decide +kernel) rfl) pa_nil))))
      (pss_one (ps_set (i := 9) sc_l_event_turned.nd rfl (.inl rfl) (pe_callO (ok_l_row_turned (K := K) T) hr (by rfl) (pa_cons (pv 0) (pa_cons (pv 8) (pa_cons (pv 2) pa_nil))))))
      (pss_one (ps_if (pt_val (pe_callB (call_isiZ (K := K) rfl) (by rfl) T.n_isinstance (by decide +kernel) (pa_cons (pv 8) (pa_cons (pe_bltn (v := .ty "str") (u := .type "str") (by rfl) T.n_str (by decide +kernel) rfl) pa_nil))))
      (pss_one (ps_set (i := 9) sc_l_event_turned.nd rfl (.inl rfl) (pe_ix (ix_U (K := K) rfl (hu_of hr)) (pe_lst (pa_cons (pv 6) (pa_cons (pe_callO (ok_l_edge (K := K) T) (hr.mono (by decide)) (by rfl) (pa_cons (pv 0) (pa_cons (pv 2) pa_nil))) pa_nil))) (pe_callTy call_intU (by rfl) T.n_int (by decide +kernel) (pa_cons (pe_cmpR (op_eqZ (K := K) rfl hr.units) (pv 4) pe_str (nomark _)) pa_nil)) (fun _ _ => rfl))))
      (pss_one (ps_if (pt_cmpR op_isU (pv 8) pe_non (nomark _))
      (pss_one (ps_set (i := 9) sc_l_event_turned.nd rfl (.inl rfl) (pe_callO (ok_l_worth (K := K) T) (hr.mono (by decide)) (by rfl) (pa_cons (pv 0) pa_nil))))
      (pss_one (ps_if (PW.pt (pw_and (pt_cmpR (op_eqZ (K := K) rfl hr.units) (pv 4) pe_str (nomark _)) (pw_and1 (pt_cmpR (op_eqZ (K := K) rfl hr.units) (pv 5) pe_int (nomark _)))))
      (pss_one (ps_set (i := 9) sc_l_event_turned.nd rfl (.inl rfl) (pe_ix (ix_U (K := K) rfl (hu_of hr)) (pe_lst (pa_cons pe_non (pa_cons (pe_callO (ok_l_near (K := K) T) (hr.mono (by decide)) (by rfl) (pa_cons (pv 0) (pa_cons (pv 8) pa_nil))) (pa_cons (pe_callO (ok_l_worth (K := K) T) (hr.mono (by decide)) (by rfl) (pa_cons (pv 0) pa_nil)) pa_nil)))) (pe_callO (ok_l_draw (K := K) T) (hr.mono (by decide)) (by rfl) (pa_cons (pv 0) (pa_cons pe_int pa_nil))) (fun _ _ => rfl))))
      (pss_one (ps_if (PW.pt (pw_and (pt_cmpR (op_eqZ (K := K) rfl hr.units) (pv 5) pe_int (nomark _)) (pw_and1 (pt_cmpR (op_neZ (K := K) rfl hr.units) (pv 4) pe_str (nomark _)))))
      (pss_one (ps_set (i := 9) sc_l_event_turned.nd rfl (.inl rfl) (pv 7)))
      (pss_one (ps_set (i := 9) sc_l_event_turned.nd rfl (.inl rfl) (pe_callO (ok_l_near (K := K) T) (hr.mono (by decide)) (by rfl) (pa_cons (pv 0) (pa_cons (pv 8) pa_nil))))))))))))))
      (pss_one (ps_ret (pe_op (op_addA (K := K) rfl) (pe_op (op_addA (K := K) rfl) (pe_slice (sl_tupAK (K := K) rfl) (pv 1) po_none (po_some (pv 5))) (pe_tup (pa_cons (pv 9) pa_nil))) (pe_slice (sl_tupAK (K := K) rfl) (pv 1) (po_some (pe_op (op_addA (K := K) rfl) (pv 5) pe_int)) po_none))))))))))), ?_⟩
  walk_at "yn"
  obtain ⟨ta, ws, rfl, hta, hre, -⟩ := ev_at hev
  obtain ⟨hw0, hw1⟩ := hre.len
  obtain ⟨zv, hzv, hzp⟩ := at_list_ref hka
  have hzvl : zv.length = zs.length := hzp.length
  obtain ⟨nv, hnv, hnp⟩ := at_list_ref hna
  have hnvl : nv.length = ns.length := hnp.length
  walk_at "yn"
  refine y_ixT (S.t hta) (atI_of (by decide) rfl) ?_
  walk_at "yn"
  refine y_ifS ?_
  walk_at "yy"
  refine y_iteS (fun c => ?_) (fun c => ?_)
  · cases ev <;> first | (exfalso; revert c; simp only [evTag]; decide) | skip
    rename_i q rows
    obtain ⟨ra, rfl, hra⟩ := hre
    obtain ⟨r0, r1, r2⟩ := ho.ok.rs q rows rfl
    walk_at "yy"
    refine y_drawN 0 S rfl hb (by omega) (by omega) (by omega) fun i o H i0 i1 hb S => ?_
    try simp only [List.set] at S
    walk_at "yn"
    refine y_newI S fun t B1 H b1 ht _ S => ?_
    exact k (.ref t) (.raised (q + i) rows) o B1 b1 (ev_of (sqT ht) ⟨ra, rfl, hra.up b1⟩) ⟨⟨fun n' r' z => (by cases z; exact ⟨by omega, r1, r2⟩), (by intro _ _ _ z; cases z), (by intro _ _ z; cases z)⟩, (by intro _ _ _ _ z; cases z)⟩ (hb.mono (by omega)) _ S
  have hnr := c
  clear c
  walk_at "yy"
  rw [List.length_cons]
  refine y_drawN 0 S rfl hb (by omega) (by omega) (by omega) fun j o H j0 j1 hb S => ?_
  try simp only [List.set] at S
  walk_at "yn"
  rw [hzvl]
  refine y_drawN 0 S rfl hb (by omega) (by omega) (by omega) fun ki o H ki0 ki1 hb S => ?_
  try simp only [List.set] at S
  walk_at "yn"
  refine y_ixC S hka (by omega) (by omega) fun v key hkey hv => ?_
  have e1 := at_str hv
  subst e1
  have hkm := List.mem_of_getElem? hkey
  walk_at "yn"
  rw [hnvl]
  refine y_drawN 0 S rfl hb (by omega) (by omega) (by omega) fun ni o H ni0 ni1 hb S => ?_
  try simp only [List.set] at S
  walk_at "yn"
  refine y_ixC S hna (by omega) (by omega) fun v ot hot hv => ?_
  have e1 := at_int hv
  subst e1
  obtain ⟨part, hpart⟩ : ∃ part, ws[j.toNat]? = some part := ⟨_, List.getElem?_eq_getElem (by omega)⟩
  walk_at "yn"
  refine y_ixT (S.t hta) (v := part) (atI_of (by omega) (by rw [show (1 + j).toNat = j.toNat + 1 by omega]; exact hpart)) ?_
  walk_at "yn"
  have hP := part_is hnr hre ho hpart
  refine y_cutS (R := fun σ H => ∃ (B1 : Hp) (o : HO) (nw : V), (∃ (y2 y3 y4 y6 y7 y8 : Option V), σ = [some (.ref bg), some (.ref ta), y2, y3, y4, some (.int (1 + j)), y6, y7, y8, some (nw)]) ∧ Same B B1 ∧ Sy e B1 H [(bg, o)] ∧ NewPart K B1 zs (3 * n + 1) ev (ws.set j.toNat nw) ∧ Bag m o) (fun nx' hnx => ?_) (fun σ H hR => ?_)
  · refine y_ifS ?_
    walk_at "yy"
    cases hP with
    | rows ra rows hra hrl hnew =>
      obtain ⟨rv, hrv, hrp⟩ := at_list_ref hra
      refine y_isiZ (r := true) S (.lst hrv) (by decide +kernel) ?_
      walk_at "yy"
      refine y_spN 0 S rfl ⟨bg, o, ra, ka, rows, zs, m, rfl, rfl, hb.mono (by omega), hra, by omega, hka, hz0, hz1, fun t rows2 o B1 b1 ht hl2 hb H T => ?_⟩
      replace S := S.backN1 0 rfl T
      clear T
      try simp only [List.set] at S
      walk_at "yn"
      exact hnx _ _ ⟨B1, o, .ref t, ⟨_, _, _, _, _, _, rfl⟩, b1, S, hnew t rows2 B1 b1 ht (by omega), hb⟩
    | str z hnew =>
      refine y_isiZ (r := false) S (.str _) (by decide +kernel) ?_
      walk_at "yy"
      refine y_isiZ (r := true) S (.str _) (by decide +kernel) ?_
      walk_at "yy"
      refine y_spN 0 S rfl ⟨bg, o, ka, zs, m, rfl, rfl, hb.mono (by omega), hka, hz0, hz1, hzk, fun ed o B1 b1 hb H T => ?_⟩
      replace S := S.backN1 0 rfl T
      clear T
      try simp only [List.set] at S
      walk_at "yn"
      refine y_newI S fun q B2 H b2 hq _ S => ?_
      walk_at "yy"
      by_cases c : evTag ev = "scan"
      · rw [decide_eq_true (show V.str (evTag ev) = V.str "scan" by rw [c])]
        walk_at "yy"
        obtain ⟨ev', g1, g2, g3⟩ := hnew ed (.inl c)
        exact hnx _ _ ⟨B2, o, .str ed, ⟨_, _, _, _, _, _, rfl⟩, b1.trans b2, S, ⟨ev', g1, g2.up (b1.trans b2), g3.mono (by omega)⟩, hb⟩
      · rw [decide_eq_false (fun z => c (V.str.inj z))]
        walk_at "yy"
        obtain ⟨ev', g1, g2, g3⟩ := hnew key (.inr hkm)
        exact hnx _ _ ⟨B2, o, .str key, ⟨_, _, _, _, _, _, rfl⟩, b1.trans b2, S, ⟨ev', g1, g2.up (b1.trans b2), g3.mono (by omega)⟩, hb⟩
    | non hnew =>
      refine y_isiZ (r := false) S .non (by decide +kernel) ?_
      walk_at "yy"
      refine y_isiZ (r := false) S .non (by decide +kernel) ?_
      walk_at "yy"
      refine y_spN 0 S rfl ⟨bg, o, m, rfl, rfl, hb.mono (by omega), fun w0 o B1 b1 hb H T => ?_⟩
      replace S := S.backN1 0 rfl T
      clear T
      try simp only [List.set] at S
      walk_at "yn"
      obtain ⟨ev', g1, g2, g3⟩ := hnew w0
      exact hnx _ _ ⟨B1, o, .int w0, ⟨_, _, _, _, _, _, rfl⟩, b1, S, ⟨ev', g1, g2.up b1, g3.mono (by omega)⟩, hb⟩
    | int i hnew hnon =>
      refine y_isiZ (r := false) S (.int _) (by decide +kernel) ?_
      walk_at "yn"
      refine y_ifS ?_
      walk_at "yn"
      refine y_isiZ (r := false) S (.int _) (by decide +kernel) ?_
      walk_at "yn"
      refine y_ifS ?_
      walk_at "yn"
      refine y_ifS ?_
      refine y_cutT (R := fun b H => (b = true → evTag ev = "read" ∧ j.toNat = 2) ∧ Sy e B H [(bg, o)]) (fun Q' hQ => ?_) (fun bc H hR => ?_)
      · walk_at "yy"
        refine y_iteS (fun c => ?_) (fun c => ?_)
        · walk_at "yy"
          refine hQ _ _ ⟨fun h => ⟨c, ?_⟩, S⟩
          have := V.int.inj (of_decide_eq_true h)
          omega
        · walk_at "yy"
          exact hQ _ _ ⟨fun h => (by cases h), S⟩
      clear S
      obtain ⟨hbc, S⟩ := hR
      refine y_iteB (fun hb1 => ?_) (fun hb1 => ?_)
      · obtain ⟨c1, c2⟩ := hbc hb1
        walk_at "yy"
        refine y_spN 0 S rfl ⟨bg, o, i, m + 10, rfl, rfl, hb.mono (by omega), fun j1 o hb H T => ?_⟩
        replace S := S.backN1 0 rfl T
        clear T
        try simp only [List.set] at S
        walk_at "yn"
        refine y_spN 0 S rfl ⟨bg, o, m + 1, rfl, rfl, hb.mono (by omega), fun w0 o B1 b1 hb H T => ?_⟩
        replace S := S.backN1 0 rfl T
        clear T
        try simp only [List.set] at S
        walk_at "yn"
        refine y_newI S fun q B2 H b2 hq _ S => ?_
        walk_at "yy"
        refine y_drawN 0 S rfl hb (by omega) (by omega) (by omega) fun q3 o H q30 q31 hb S => ?_
        try simp only [List.set] at S
        walk_at "yn"
        refine y_ixM (S.l (sqL hq)) (by omega) (by exact q31) fun v hv => ?_
        walk_at "yy"
        have hv2 : NewPart K B zs n ev (ws.set j.toNat v) := by
          simp only [List.mem_cons, List.not_mem_nil, or_false] at hv
          rcases hv with rfl | rfl | rfl
          · exact hnon c1 c2
          · exact hnew _
          · exact hnew _
        obtain ⟨ev', g1, g2, g3⟩ := hv2
        exact hnx _ _ ⟨B2, o, v, ⟨_, _, _, _, _, _, rfl⟩, b1.trans b2, S, ⟨ev', g1, g2.up (b1.trans b2), g3.mono (by omega)⟩, hb.mono (by omega)⟩
      clear hbc hb1 bc
      walk_at "yn"
      refine y_ifS ?_
      refine y_cutT (R := fun b H => Sy e B H [(bg, o)]) (fun Q' hQ => ?_) (fun bc H hR => ?_)
      · walk_at "yy"
        refine y_iteI (fun c => ?_) (fun c => ?_)
        · walk_at "yy"
          exact hQ _ _ S
        · walk_at "yy"
          exact hQ _ _ S
      clear S
      have S := hR
      refine y_iteB (fun hb1 => ?_) (fun hb1 => ?_)
      · walk_at "yy"
        obtain ⟨ev', g1, g2, g3⟩ := hnew ot
        exact hnx _ _ ⟨B, o, .int ot, ⟨_, _, _, _, _, _, rfl⟩, Same.refl _, S, ⟨ev', g1, g2, g3.mono (by omega)⟩, hb.mono (by omega)⟩
      · walk_at "yy"
        refine y_spN 0 S rfl ⟨bg, o, i, m, rfl, rfl, hb.mono (by omega), fun j1 o hb H T => ?_⟩
        replace S := S.backN1 0 rfl T
        clear T
        try simp only [List.set] at S
        walk_at "yn"
        obtain ⟨ev', g1, g2, g3⟩ := hnew j1
        exact hnx _ _ ⟨B, o, .int j1, ⟨_, _, _, _, _, _, rfl⟩, Same.refl _, S, ⟨ev', g1, g2, g3.mono (by omega)⟩, hb⟩
  clear S hb
  obtain ⟨B1, o, nw, ⟨y2, y3, y4, y6, y7, y8, rfl⟩, b1, S, ⟨ev', g1, g2, g3⟩, hb⟩ := hR
  have hta1 := up_t b1 hta
  walk_at "yn"
  refine y_slTA S hta1 fun t1 B2 H b2 ht1 S => ?_
  rw [cut_to (by omega), show (1 + j).toNat = j.toNat + 1 by omega, List.take_succ_cons] at ht1
  walk_at "yn"
  refine y_newI S fun t2 B3 H b3 ht2 _ S => ?_
  refine a_cat S (up_t b3 ht1) (sqT ht2) (by rw [List.length_cons, List.length_take]; simp; omega) fun t3 B4 H b4 ht3 S => ?_
  walk_at "yn"
  refine y_slTA S (up_t (b2.trans (b3.trans b4)) hta1) fun t5 B5 H b5 ht5 S => ?_
  rw [cut_from (by omega) (by rw [List.length_cons]; omega), show (1 + j + 1).toNat = j.toNat + 1 + 1 by omega, List.drop_succ_cons] at ht5
  refine a_cat S (up_t b5 ht3) ht5 (by simp only [List.length_append, List.length_cons, List.length_take, List.length_drop, List.length_nil]; omega) fun t6 B6 H b6 ht6 S => ?_
  have e9 : V.str (evTag ev) :: ws.take j.toNat ++ [nw] ++ ws.drop (j.toNat + 1) = V.str (evTag ev') :: ws.set j.toNat nw := by
    rw [g1, List.set_eq_take_append_cons_drop, if_pos (by omega)]
    simp
  rw [e9] at ht6
  exact k (.ref t6) ev' o B6 (b1.trans (b2.trans (b3.trans (b4.trans (b5.trans b6))))) (ev_of ht6 (g2.up (b2.trans (b3.trans (b4.trans (b5.trans b6)))))) g3 hb _ S
theorem ok_l_event_turned (T : Tx w K mg) : Ok P w K mg base 5 "_law_event_turned" ["well", "event", "keys", "numbers"] (spY (φ_evturn K)) :=
  Ok.of T.F_l_event_turned T.g_l_event_turned (fun _ _ _ _ _ _ us hl => match us, hl with | [_, _, _, _], _ => rfl) (fn_l_event_turned T)

def φ_foreign (K : PySem.W.Frag) : Ph := fun B vs L k => ∃ (b : Addr) (o : HO) (ka na : Addr) (zs : List Str) (ns : List Int) (m : Nat), vs = [.ref b, .ref ka, .ref na] ∧ L = [(b, o)] ∧ Bag (m + 5) o ∧ At cS K B (.ref ka) zs ∧ 0 < zs.length ∧ zs.length ≤ 20 ∧ At (.list .int) K B (.ref na) ns ∧ 0 < ns.length ∧ ns.length ≤ 100000 ∧ ∀ v ev o' B', Same B B' → At evC K B' v ev → Evo zs 0 ev → Bag m o' → k B' v [(b, o')]
def forL (one : Int) (key : Str) : List Ev := ([.begin one, .begin 0, .begin (-1), .read one key none, .put one key 1] ++ [.drop one key, .mark one 0, .back one 0, .keep one 1, .undo one]) ++ [.fall 0, .fall 1] ++ [.fall 100000000000000000000, .raised 0 [], .scan one "a" "{" [], .fall (-1), .back one (-1)]
theorem forL_ok {zs : List Str} {one : Int} {key : Str} (hk : key ∈ zs) : ∀ ev ∈ forL one key, Evo zs 0 ev := by
  have oth : ∀ ev : Ev, (∀ n rows, ev ≠ .raised n rows) → (∀ d key w, ev ≠ .put d key w) → (∀ d key, ev ≠ .drop d key) → (∀ d lo hi rows, ev ≠ .scan d lo hi rows) → Evo zs 0 ev := fun ev h1 h2 h3 h4 => Evo.other h1 h2 h3 h4
  intro ev hev
  simp only [forL, List.cons_append, List.nil_append, List.mem_cons, List.not_mem_nil, or_false] at hev
  rcases hev with rfl | rfl | rfl | rfl | rfl | rfl | rfl | rfl | rfl | rfl | rfl | rfl | rfl | rfl | rfl | rfl | rfl
  · exact oth _ (by intros; simp) (by intros; simp) (by intros; simp) (by intros; simp)
  · exact oth _ (by intros; simp) (by intros; simp) (by intros; simp) (by intros; simp)
  · exact oth _ (by intros; simp) (by intros; simp) (by intros; simp) (by intros; simp)
  · exact oth _ (by intros; simp) (by intros; simp) (by intros; simp) (by intros; simp)
  · exact .put hk
  · exact .drop hk
  · exact oth _ (by intros; simp) (by intros; simp) (by intros; simp) (by intros; simp)
  · exact oth _ (by intros; simp) (by intros; simp) (by intros; simp) (by intros; simp)
  · exact oth _ (by intros; simp) (by intros; simp) (by intros; simp) (by intros; simp)
  · exact oth _ (by intros; simp) (by intros; simp) (by intros; simp) (by intros; simp)
  · exact oth _ (by intros; simp) (by intros; simp) (by intros; simp) (by intros; simp)
  · exact oth _ (by intros; simp) (by intros; simp) (by intros; simp) (by intros; simp)
  · exact oth _ (by intros; simp) (by intros; simp) (by intros; simp) (by intros; simp)
  · exact ⟨⟨fun n rows z => (by cases z; exact ⟨by decide, by simp, fun p hp => (by cases hp)⟩), (by intro _ _ _ z; cases z), (by intro _ _ z; cases z)⟩, (by intro _ _ _ _ z; cases z)⟩
  · exact .scan (by simp)
  · exact oth _ (by intros; simp) (by intros; simp) (by intros; simp) (by intros; simp)
  · exact oth _ (by intros; simp) (by intros; simp) (by intros; simp) (by intros; simp)
theorem fn_l_foreign (T : Tx w K mg) (fd : FuncData) (F : FunD K "_law_foreign" "_law_foreign" (defArgs s_l_foreign) (defBody s_l_foreign) (defScope s_l_foreign) [] [] (He.ga K "_law_foreign") fd) : FnOk P w K mg base CX0 3 (He.ga K "_law_foreign") fd ["well", "keys", "numbers"] (spY (φ_foreign K)) := by
  refine fnM F sc_l_foreign (fun B vs L k h => by obtain ⟨_, _, _, _, _, _, _, rfl, _⟩ := h; rfl) (fun cdv A outer s H vs Q E B L e hz he hr S h => ?_)
  obtain ⟨bg, o, ka, na, zs, ns, m, rfl, rfl, hb, hka, hz0, hz1, hna, hn0, hn1, k⟩ := h
  refine ⟨_, (pss_cons (ps_set (i := 3) sc_l_foreign.nd rfl (.inl rfl) (pe_ix (ix_U (K := K) rfl (hu_of hr)) (pv 2) (pe_callO (ok_l_draw (K := K) T) hr (by rfl) (pa_cons (pv 0) (pa_cons (pe_callB (call_lenU (K := K) rfl) (by rfl) T.n_len (by decide +kernel) (pa_cons (pv 2) pa_nil)) pa_nil))) (fun _ _ => rfl)))
      (pss_cons (ps_set (i := 4) sc_l_foreign.nd rfl (.inl rfl) (pe_ix (ix_U (K := K) rfl (hu_of hr)) (pv 1) (pe_callO (ok_l_draw (K := K) T) hr (by rfl) (pa_cons (pv 0) (pa_cons (pe_callB (call_lenU (K := K) rfl) (by rfl) T.n_len (by decide +kernel) (pa_cons (pv 1) pa_nil)) pa_nil))) (fun _ _ => rfl)))
      (pss_cons (ps_set (i := 5) sc_l_foreign.nd rfl (.inl rfl) (pe_lst (pa_cons (pe_tup (pa_cons pe_str (pa_cons (pv 3) pa_nil))) (pa_cons (pe_tup (pa_cons pe_str (pa_cons pe_int pa_nil))) (pa_cons (pe_tup (pa_cons pe_str (pa_cons (pe_un un_negU pe_int) pa_nil))) (pa_cons (pe_tup (pa_cons pe_str (pa_cons (pv 3) (pa_cons (pv 4) (pa_cons pe_non pa_nil))))) (pa_cons (pe_tup (pa_cons pe_str (pa_cons (pv 3) (pa_cons (pv 4) (pa_cons pe_int pa_nil))))) pa_nil)))))))
      (pss_cons (ps_set (i := 5) sc_l_foreign.nd rfl (.inl rfl) (pe_op (op_addZ (K := K) rfl) (pv 5) (pe_lst (pa_cons (pe_tup (pa_cons pe_str (pa_cons (pv 3) (pa_cons (pv 4) pa_nil)))) (pa_cons (pe_tup (pa_cons pe_str (pa_cons (pv 3) (pa_cons pe_int pa_nil)))) (pa_cons (pe_tup (pa_cons pe_str (pa_cons (pv 3) (pa_cons pe_int pa_nil)))) (pa_cons (pe_tup (pa_cons pe_str (pa_cons (pv 3) (pa_cons pe_int pa_nil)))) (pa_cons (pe_tup (pa_cons pe_str (pa_cons (pv 3) pa_nil))) pa_nil))))))))
      (pss_cons (ps_set (i := 5) sc_l_foreign.nd rfl (.inl rfl) (pe_op (op_addZ (K := K) rfl) (pv 5) (pe_lst (pa_cons (pe_tup (pa_cons pe_str (pa_cons pe_int pa_nil))) (pa_cons (pe_tup (pa_cons pe_str (pa_cons pe_int pa_nil))) pa_nil)))))
      (pss_cons (ps_set (i := 5) sc_l_foreign.nd rfl (.inl rfl) (pe_op (op_addZ (K := K) rfl) (pv 5) (pe_lst (pa_cons (pe_tup (pa_cons pe_str (pa_cons (pe_op op_powU pe_int pe_int) pa_nil))) (pa_cons (pe_tup (pa_cons pe_str (pa_cons pe_int (pa_cons (pe_lst pa_nil) pa_nil)))) (pa_cons (pe_tup (pa_cons pe_str (pa_cons (pv 3) (pa_cons pe_str (pa_cons pe_str (pa_cons (pe_lst pa_nil) pa_nil)))))) (pa_cons (pe_tup (pa_cons pe_str (pa_cons (pe_un un_negU pe_int) pa_nil))) (pa_cons (pe_tup (pa_cons pe_str (pa_cons (pv 3) (pa_cons (pe_un un_negU pe_int) pa_nil)))) pa_nil))))))))
      (pss_one (ps_ret (pe_ix (ix_U (K := K) rfl (hu_of hr)) (pv 5) (pe_callO (ok_l_draw (K := K) T) hr (by rfl) (pa_cons (pv 0) (pa_cons pe_int pa_nil))) (fun _ _ => rfl)))))))))), ?_⟩
  walk_at "yn"
  obtain ⟨zv, hzv, hzp⟩ := at_list_ref hka
  have hzvl : zv.length = zs.length := hzp.length
  obtain ⟨nv, hnv, hnp⟩ := at_list_ref hna
  have hnvl : nv.length = ns.length := hnp.length
  walk_at "yn"
  rw [hnvl]
  refine y_drawN 0 S rfl hb (by omega) (by omega) (by omega) fun ni o H ni0 ni1 hb S => ?_
  try simp only [List.set] at S
  walk_at "yn"
  refine y_ixC S hna (by omega) (by omega) fun v one hone hv => ?_
  have e1 := at_int hv
  subst e1
  walk_at "yn"
  rw [hzvl]
  refine y_drawN 0 S rfl hb (by omega) (by omega) (by omega) fun ki o H ki0 ki1 hb S => ?_
  try simp only [List.set] at S
  walk_at "yn"
  refine y_ixC S hka (by omega) (by omega) fun v key hkey hv => ?_
  have e1 := at_str hv
  subst e1
  have hkm := List.mem_of_getElem? hkey
  clear hkey hone
  walk_at "yn"
  refine y_newI S fun t1 B1 H b1 h1 _ S => ?_
  walk_at "yn"
  refine y_newI S fun t2 B2 H b2 h2 _ S => ?_
  walk_at "yn"
  refine y_newI S fun t3 B3 H b3 h3 _ S => ?_
  walk_at "yn"
  refine y_newI S fun t4 B4 H b4 h4 _ S => ?_
  walk_at "yn"
  refine y_newI S fun t5 B5 H b5 h5 _ S => ?_
  walk_at "yn"
  refine y_newI S fun l1 B6 H b6 hl1 _ S => ?_
  have g1 : At (.list evC) K B6 (.ref l1) [.begin one, .begin 0, .begin (-1), .read one key none, .put one key 1] := .list (sqL hl1) (.cons (ev_of (ev := .begin one) (sqT (up_o (b2.trans (b3.trans (b4.trans (b5.trans b6)))) h1)) rfl) (.cons (ev_of (ev := .begin 0) (sqT (up_o (b3.trans (b4.trans (b5.trans b6))) h2)) rfl) (.cons (ev_of (ev := .begin (-1)) (sqT (up_o (b4.trans (b5.trans b6)) h3)) rfl) (.cons (ev_of (ev := .read one key none) (sqT (up_o (b5.trans b6) h4)) rfl) (.cons (ev_of (ev := .put one key 1) (sqT (up_o b6 h5)) rfl) .nil)))))
  clear hl1 h1 h2 h3 h4 h5
  walk_at "yn"
  refine y_newI S fun t1 C1 H c1 h1 _ S => ?_
  walk_at "yn"
  refine y_newI S fun t2 C2 H c2 h2 _ S => ?_
  walk_at "yn"
  refine y_newI S fun t3 C3 H c3 h3 _ S => ?_
  walk_at "yn"
  refine y_newI S fun t4 C4 H c4 h4 _ S => ?_
  walk_at "yn"
  refine y_newI S fun t5 C5 H c5 h5 _ S => ?_
  walk_at "yn"
  refine y_newI S fun l2 C6 H c6 hl2 _ S => ?_
  have g2 : At (.list evC) K C6 (.ref l2) [.drop one key, .mark one 0, .back one 0, .keep one 1, .undo one] := .list (sqL hl2) (.cons (ev_of (ev := .drop one key) (sqT (up_o (c2.trans (c3.trans (c4.trans (c5.trans c6)))) h1)) rfl) (.cons (ev_of (ev := .mark one 0) (sqT (up_o (c3.trans (c4.trans (c5.trans c6))) h2)) rfl) (.cons (ev_of (ev := .back one 0) (sqT (up_o (c4.trans (c5.trans c6)) h3)) rfl) (.cons (ev_of (ev := .keep one 1) (sqT (up_o (c5.trans c6) h4)) rfl) (.cons (ev_of (ev := .undo one) (sqT (up_o c6 h5)) rfl) .nil)))))
  clear hl2 h1 h2 h3 h4 h5
  refine z_catC S (g1.up (by walk_at "up")) g2 (by simp) fun l3 D1 H d1 g3 S => ?_
  walk_at "yn"
  refine y_newI S fun t1 D2 H d2 h1 _ S => ?_
  walk_at "yn"
  refine y_newI S fun t2 D3 H d3 h2 _ S => ?_
  walk_at "yn"
  refine y_newI S fun l4 D4 H d4 hl4 _ S => ?_
  have g4 : At (.list evC) K D4 (.ref l4) [.fall 0, .fall 1] := .list (sqL hl4) (.cons (ev_of (ev := .fall 0) (sqT (up_o (d3.trans d4) h1)) rfl) (.cons (ev_of (ev := .fall 1) (sqT (up_o d4 h2)) rfl) .nil))
  clear hl4 h1 h2
  refine z_catC S (g3.up (by walk_at "up")) g4 (by simp) fun l5 D5 H d5 g5 S => ?_
  walk_at "yn"
  refine y_powI (pow_ok (b := 4) (by decide) (by decide) (by decide) (by decide) (by decide)) ?_
  rw [ten20]
  walk_at "yn"
  refine y_newI S fun t1 E1 H e1 h1 _ S => ?_
  walk_at "yn"
  refine y_newI S fun r2 E2 H e2 hr2 _ S => ?_
  walk_at "yn"
  refine y_newI S fun t2 E3 H e3 h2 _ S => ?_
  walk_at "yn"
  refine y_newI S fun r3 E4 H e4 hr3 _ S => ?_
  walk_at "yn"
  refine y_newI S fun t3 E5 H e5 h3 _ S => ?_
  walk_at "yn"
  refine y_newI S fun t4 E6 H e6 h4 _ S => ?_
  walk_at "yn"
  refine y_newI S fun t5 E7 H e7 h5 _ S => ?_
  walk_at "yn"
  refine y_newI S fun l6 E8 H e8 hl6 _ S => ?_
  have g6 : At (.list evC) K E8 (.ref l6) [.fall 100000000000000000000, .raised 0 [], .scan one "a" "{" [], .fall (-1), .back one (-1)] := .list (sqL hl6) (.cons (ev_of (ev := .fall 100000000000000000000) (sqT (up_o (e2.trans (e3.trans (e4.trans (e5.trans (e6.trans (e7.trans e8)))))) h1)) rfl) (.cons (ev_of (ev := .raised 0 []) (sqT (up_o (e4.trans (e5.trans (e6.trans (e7.trans e8)))) h2)) ⟨r2, rfl, .list (sqL (up_o (e3.trans (e4.trans (e5.trans (e6.trans (e7.trans e8))))) hr2)) .nil⟩) (.cons (ev_of (ev := .scan one "a" "{" []) (sqT (up_o (e6.trans (e7.trans e8)) h3)) ⟨r3, rfl, .list (sqL (up_o (e5.trans (e6.trans (e7.trans e8))) hr3)) .nil⟩) (.cons (ev_of (ev := .fall (-1)) (sqT (up_o (e7.trans e8) h4)) rfl) (.cons (ev_of (ev := .back one (-1)) (sqT (up_o e8 h5)) rfl) .nil)))))
  clear hl6 h1 h2 h3 h4 h5
  refine z_catC S (g5.up (by walk_at "up")) g6 (by simp) fun l7 E9 H e9 g7 S => ?_
  walk_at "yn"
  refine y_drawN 0 S rfl hb (by omega) (by omega) (by omega) fun fi o H fi0 fi1 hb S => ?_
  try simp only [List.set] at S
  walk_at "yn"
  refine y_ixC S g7 (by omega) (by exact fi1) fun v ev hev hv => ?_
  exact k v ev o E9 (by walk_at "up") hv (forL_ok hkm ev (List.mem_of_getElem? hev)) (hb.mono (by omega)) _ S
theorem ok_l_foreign (T : Tx w K mg) : Ok P w K mg base 3 "_law_foreign" ["well", "keys", "numbers"] (spY (φ_foreign K)) :=
  Ok.of T.F_l_foreign T.g_l_foreign (fun _ _ _ _ _ _ us hl => match us, hl with | [_, _, _], _ => rfl) (fn_l_foreign T)
theorem pr_ofInts {B : Hp} : ∀ ns : List Int, Paired (At .int K B) (ns.map V.int) ns
  | [] => .nil
  | _ :: ns => .cons .int (pr_ofInts ns)
theorem cut_fromG {xs : List V} {i : Int} (h0 : 0 ≤ i) : cutV xs (some i) none = xs.drop i.toNat := by
  by_cases c : i ≤ xs.length
  · exact cut_from h0 c
  · unfold cutV HT.sIx
    simp
    have e : ¬ i < 0 := by omega
    rw [if_neg e, Nat.min_eq_right (by omega)]
    simp
    omega
theorem z_slTo {α : Type} {c : Cod α} {e : En} {B H : Hp} {L : Led} {Q : VK} {p : Addr} {zs : List α} {hi : Int} (S : Sy e B H L) (h : At (.list c) K B (.ref p) zs) (h0 : 0 ≤ hi) (q : ∀ t zs' B' H', Same B B' → At (.list c) K B' (.ref t) zs' → (∀ z ∈ zs', z ∈ zs) → zs'.length = min hi.toNat zs.length → Sy e B' H' L → Q (.ref t) H') : rSlU K (.ref p) none (some hi) H Q :=
  z_slC S h h0 fun t B1 H1 b1 ht S1 => q t _ B1 H1 b1 ht (fun z hz => List.mem_of_mem_take hz) (by rw [List.length_take]) S1
theorem z_slFr {α : Type} {c : Cod α} {e : En} {B H : Hp} {L : Led} {Q : VK} {p : Addr} {zs : List α} {lo : Int} (S : Sy e B H L) (h : At (.list c) K B (.ref p) zs) (h0 : 0 ≤ lo) (q : ∀ t zs' B' H', Same B B' → At (.list c) K B' (.ref t) zs' → (∀ z ∈ zs', z ∈ zs) → zs'.length = zs.length - lo.toNat → Sy e B' H' L → Q (.ref t) H') : rSlU K (.ref p) (some lo) none H Q := by
  obtain ⟨v1, q1, p1⟩ := at_list_ref h
  refine y_slL (S.l q1) ?_
  rw [cut_fromG h0]
  refine y_newI S fun t B1 H b1 ht _ S => ?_
  exact q t (zs.drop lo.toNat) B1 H b1 (.list (sqL ht) (pr_drop _ (pr_up at_up b1 p1))) (fun z hz => List.mem_of_mem_drop hz) (by rw [List.length_drop]) S
def φ_turned (K : PySem.W.Frag) : Ph := fun B vs L k => ∃ (b : Addr) (o : HO) (ea ka : Addr) (evs : List Ev) (zs : List Str) (n m : Nat), vs = [.ref b, .ref ea, .ref ka] ∧ L = [(b, o)] ∧ Bag (m + 40) o ∧ At (.list evC) K B (.ref ea) evs ∧ (∀ ev ∈ evs, Evo zs n ev) ∧ n ≤ 400 ∧ 0 < evs.length ∧ evs.length ≤ 300 ∧ At cS K B (.ref ka) zs ∧ 0 < zs.length ∧ zs.length ≤ 20 ∧ (∀ z ∈ zs, KeyS z) ∧ ∀ t evs' o' B', Same B B' → At (.list evC) K B' (.ref t) evs' → (∀ ev ∈ evs', Evo zs (3 * n + 1) ev) → evs'.length ≤ 2 * evs.length + 1 → Bag m o' → k B' (.ref t) [(b, o')]
theorem fn_l_turned (T : Tx w K mg) (fd : FuncData) (F : FunD K "_law_turned" "_law_turned" (defArgs s_l_turned) (defBody s_l_turned) (defScope s_l_turned) [] [] (He.ga K "_law_turned") fd) : FnOk P w K mg base CX0 6 (He.ga K "_law_turned") fd ["well", "events", "keys"] (spY (φ_turned K)) := by
  refine fnM F sc_l_turned (fun B vs L k h => by obtain ⟨_, _, _, _, _, _, _, _, rfl, _⟩ := h; rfl) (fun cdv A outer s H vs Q E B L e hz he hr S h => ?_)
  obtain ⟨bg, o, ea, ka, evs, zs, n, m, rfl, rfl, hb, hea, hok, hn, he0, he1, hka, hz0, hz1, hzk, k⟩ := h
  refine ⟨_, (pss_cons (ps_set (i := 3) sc_l_turned.nd rfl (.inl rfl) (pe_callO (ok_l_draw (K := K) T) (hr.mono (by decide)) (by rfl) (pa_cons (pv 0) (pa_cons pe_int pa_nil))))
      (pss_cons (ps_set (i := 4) sc_l_turned.nd rfl (.inl rfl) (pe_callO (ok_l_draw (K := K) T) (hr.mono (by decide)) (by rfl) (pa_cons (pv 0) (pa_cons (pe_callB (call_lenU (K := K) rfl) (by rfl) T.n_len (by decide +kernel) (pa_cons (pv 1) pa_nil)) pa_nil))))
      (pss_cons (ps_set (i := 5) sc_l_turned.nd rfl (.inl rfl) (pe_callO (ok_l_draw (K := K) T) (hr.mono (by decide)) (by rfl) (pa_cons (pv 0) (pa_cons (pe_op (op_addZ (K := K) rfl) (pe_callB (call_lenU (K := K) rfl) (by rfl) T.n_len (by decide +kernel) (pa_cons (pv 1) pa_nil)) pe_int) pa_nil))))
      (pss_cons (ps_set (i := 6) sc_l_turned.nd rfl (.inl rfl) (pe_lst (pa_cons pe_int (pa_cons pe_int (pa_cons pe_int (pa_cons (pe_op op_subU (pe_op op_powU pe_int pe_int) pe_int) pa_nil))))))
      (pss_cons (ps_expr (pe_bmK (K := K) (id := "list.extend") rfl (pe_bm PySem.F.plainAttrs_list PySem.F.slot_list_extend PySem.F.type_list_extend mt_extend (pv 6) (pa_cons (pe_lc (own := [("event", 8)]) (by rfl) sc_l_turned.nd (pi_listK (K := K) rfl (pv 1)) (blkOk_by (own := [("event", 8)]) (N := ["well", "events", "keys", "pick", "at", "to", "numbers", "left", "event"]) (sc := defScope s_l_turned) (by decide +kernel)) (fun _ _ _ _ _ => (pg_name (i := 8) sc_l_turned.nd rfl (.inl rfl))) (fun _ _ _ _ _ => (pts_one (pt_cmpR (op_eqZ (K := K) rfl hr.units) (pe_ix (ix_U (K := K) rfl (hu_of hr)) (pv 8) pe_int (fun _ _ => rfl)) pe_str (nomark _)))) (fun _ _ _ _ _ => (pe_ix (ix_U (K := K) rfl (hu_of hr)) (pv 8) pe_int (fun _ _ => rfl)))) pa_nil))))
      (pss_cons (ps_if (pt_cmpR (op_eqZ (K := K) rfl hr.units) (pv 3) pe_int (nomark _))
      (pss_one (ps_ret (pe_op (op_addZ (K := K) rfl) (pe_slice (sl_U (K := K) rfl) (pv 1) po_none (po_some (pv 4))) (pe_slice (sl_U (K := K) rfl) (pv 1) (po_some (pe_op (op_addZ (K := K) rfl) (pv 4) pe_int)) po_none))))
      pss_nil)
      (pss_cons (ps_if (pt_cmpR (op_eqZ (K := K) rfl hr.units) (pv 3) pe_int (nomark _))
      (pss_one (ps_ret (pe_op (op_addZ (K := K) rfl) (pe_op (op_addZ (K := K) rfl) (pe_slice (sl_U (K := K) rfl) (pv 1) po_none (po_some (pv 4))) (pe_lst (pa_cons (pe_ix (ix_U (K := K) rfl (hu_of hr)) (pv 1) (pv 4) (fun _ _ => rfl)) pa_nil))) (pe_slice (sl_U (K := K) rfl) (pv 1) (po_some (pv 4)) po_none))))
      pss_nil)
      (pss_cons (ps_if (pt_cmpR (op_eqZ (K := K) rfl hr.units) (pv 3) pe_int (nomark _))
      (pss_one (ps_ret (pe_op (op_addZ (K := K) rfl) (pe_op (op_addZ (K := K) rfl) (pe_slice (sl_U (K := K) rfl) (pv 1) po_none (po_some (pv 4))) (pe_revK (K := K) rfl (pe_slice (sl_U (K := K) rfl) (pv 1) (po_some (pv 4)) (po_some (pe_op (op_addZ (K := K) rfl) (pv 4) pe_int))))) (pe_slice (sl_U (K := K) rfl) (pv 1) (po_some (pe_op (op_addZ (K := K) rfl) (pv 4) pe_int)) po_none))))
      pss_nil)
      (pss_cons (ps_if (pt_cmpR (op_eqZ (K := K) rfl hr.units) (pv 3) pe_int (nomark _))
      (pss_cons (ps_set (i := 7) sc_l_turned.nd rfl (.inl rfl) (pe_op (op_addZ (K := K) rfl) (pe_slice (sl_U (K := K) rfl) (pv 1) po_none (po_some (pv 4))) (pe_slice (sl_U (K := K) rfl) (pv 1) (po_some (pe_op (op_addZ (K := K) rfl) (pv 4) pe_int)) po_none)))
      (pss_one (ps_ret (pe_op (op_addZ (K := K) rfl) (pe_op (op_addZ (K := K) rfl) (pe_slice (sl_U (K := K) rfl) (pv 7) po_none (po_some (pv 5))) (pe_lst (pa_cons (pe_ix (ix_U (K := K) rfl (hu_of hr)) (pv 1) (pv 4) (fun _ _ => rfl)) pa_nil))) (pe_slice (sl_U (K := K) rfl) (pv 7) (po_some (pv 5)) po_none)))))
      pss_nil)
      (pss_cons (ps_if (pt_cmpR (op_eqZ (K := K) rfl hr.units) (pv 3) pe_int (nomark _))
      (pss_one (ps_ret (pe_op (op_addZ (K := K) rfl) (pe_op (op_addZ (K := K) rfl) (pe_slice (sl_U (K := K) rfl) (pv 1) po_none (po_some (pv 5))) (pe_lst (pa_cons (pe_callO (ok_l_foreign (K := K) T) (hr.mono (by decide)) (by rfl) (pa_cons (pv 0) (pa_cons (pv 2) (pa_cons (pv 6) pa_nil)))) pa_nil))) (pe_slice (sl_U (K := K) rfl) (pv 1) (po_some (pv 5)) po_none))))
      pss_nil)
      (pss_cons (ps_if (pt_cmpR op_ltU (pe_callB (call_lenU (K := K) rfl) (by rfl) T.n_len (by decide +kernel) (pa_cons (pe_ix (ix_U (K := K) rfl (hu_of hr)) (pv 1) (pv 4) (fun _ _ => rfl)) pa_nil)) pe_int (nomark _))
      (pss_one (ps_ret (pv 1)))
      pss_nil)
      (pss_one (ps_ret (pe_op (op_addZ (K := K) rfl) (pe_op (op_addZ (K := K) rfl) (pe_slice (sl_U (K := K) rfl) (pv 1) po_none (po_some (pv 4))) (pe_lst (pa_cons (pe_callO (ok_l_event_turned (K := K) T) hr (by rfl) (pa_cons (pv 0) (pa_cons (pe_ix (ix_U (K := K) rfl (hu_of hr)) (pv 1) (pv 4) (fun _ _ => rfl)) (pa_cons (pv 2) (pa_cons (pv 6) pa_nil))))) pa_nil))) (pe_slice (sl_U (K := K) rfl) (pv 1) (po_some (pe_op (op_addZ (K := K) rfl) (pv 4) pe_int)) po_none))))))))))))))), ?_⟩
  walk_at "yn"
  obtain ⟨ev0, hev0, hevp⟩ := at_list_ref hea
  have hevl : ev0.length = evs.length := hevp.length
  obtain ⟨zv, hzv, hzp⟩ := at_list_ref hka
  have hzvl : zv.length = zs.length := hzp.length
  have hok3 : ∀ ev ∈ evs, Evo zs (3 * n + 1) ev := fun ev h => (hok ev h).mono (by omega)
  walk_at "yn"
  refine y_drawN 0 S rfl hb (by omega) (by omega) (by omega) fun pick o H pick0 pick1 hb S => ?_
  try simp only [List.set] at S
  walk_at "yn"
  rw [hevl]
  refine y_drawN 0 S rfl hb (by omega) (by omega) (by omega) fun at_ o H at_0 at_1 hb S => ?_
  try simp only [List.set] at S
  walk_at "yn"
  rw [hevl]
  refine y_drawN 0 S rfl hb (by omega) (by omega) (by omega) fun to o H to0 to1 hb S => ?_
  try simp only [List.set] at S
  walk_at "yn"
  refine y_powI (pow_ok (b := 4) (by decide) (by decide) (by decide) (by decide) (by decide)) ?_
  rw [ten20]
  walk_at "yn"
  refine y_newM S fun nu H hnu0 S => ?_
  walk_at "yn"
  refine y_lcC (cx := evC) (cy := .int) (fun ev => if evTag ev = "begin" then some (evWho ev) else none) S hea (by omega) (fun i ev x B1 H1 D acc Kp Kn hz b1 hx S kp kn => ?_) (fun D B1 H acc b1 hD hpa S => ?_)
  · obtain ⟨ta, ws, rfl, hta, hre, -⟩ := ev_at hx
    obtain ⟨wr, hwr⟩ := hre.who
    subst hwr
    walk_at "yn"
    refine y_ixT (S.t hta) (atI_of (by decide) rfl) ?_
    walk_at "yn"
    refine y_iteS (fun c => ?_) (fun c => ?_)
    · walk_at "yn"
      refine y_ixT (S.t hta) (atI_of (by decide) rfl) ?_
      exact kp _ _ _ _ (if_pos c) (Same.refl _) .int S
    · exact kn _ _ (if_neg c) (Same.refl _) S
  have e1 := ints_of hpa
  subst e1
  have hbl := List.length_filterMap_le (fun ev => if evTag ev = "begin" then some (evWho ev) else none) evs
  walk_at "yn"
  refine y_ext 1 S rfl (S.at 0 rfl) (lenOk (by rw [List.length_map]; simp; omega)) fun H S => ?_
  try simp only [List.set] at S
  replace S := S.tail
  obtain ⟨B2, b2, hnu, S⟩ := S.frz 0 rfl hnu0
  try simp only [List.eraseIdx] at S
  have hnA : At (.list .int) K B2 (.ref nu) ([1, 2, 3, 100000000000000000000 - 1] ++ evs.filterMap fun ev => if evTag ev = "begin" then some (evWho ev) else none) := by
    refine .list (sqL hnu) ?_
    exact pr_app (.cons .int (.cons .int (.cons .int (.cons .int .nil)))) (pr_ofInts _)
  have hnl : ([1, 2, 3, 100000000000000000000 - 1] ++ evs.filterMap fun ev => if evTag ev = "begin" then some (evWho ev) else none : List Int).length ≤ 1000 := by rw [List.length_append]; simp; omega
  have hn0 : 0 < ([1, 2, 3, 100000000000000000000 - 1] ++ evs.filterMap fun ev => if evTag ev = "begin" then some (evWho ev) else none : List Int).length := by rw [List.length_append]; simp; omega
  generalize ([1, 2, 3, 100000000000000000000 - 1] ++ evs.filterMap fun ev => if evTag ev = "begin" then some (evWho ev) else none : List Int) = ns at hnA hnl hn0
  clear hnu hpa
  have b12 := b1.trans b2
  have hea2 := hea.up b12
  have hka2 := hka.up b12
  have app : ∀ {a b : List Ev}, (∀ ev ∈ a, Evo zs (3 * n + 1) ev) → (∀ ev ∈ b, Evo zs (3 * n + 1) ev) → ∀ ev ∈ a ++ b, Evo zs (3 * n + 1) ev := fun ha hb ev h => (List.mem_append.mp h).elim (ha ev) (hb ev)
  have sub : ∀ {a : List Ev}, (∀ ev ∈ a, ev ∈ evs) → ∀ ev ∈ a, Evo zs (3 * n + 1) ev := fun ha ev h => hok3 ev (ha ev h)
  have one : ∀ {x : Ev}, Evo zs (3 * n + 1) x → ∀ ev ∈ [x], Evo zs (3 * n + 1) ev := fun hx ev h => by rw [List.mem_singleton.mp h]; exact hx
  walk_at "yn"
  refine y_ifS ?_
  walk_at "yy"
  refine y_iteI (fun c => ?_) (fun c => ?_)
  · walk_at "yy"
    refine z_slTo S hea2 (by omega) fun t1 r1 B3 H b3 h1 m1 l1 S => ?_
    walk_at "yy"
    refine z_slFr S (hea2.up b3) (by omega) fun t3 r3 B6 H b6 h3 m3 l3 S => ?_
    refine z_catC S (h1.up b6) h3 (by omega) fun t4 B7 H b7 h4 S => ?_
    exact k t4 _ o B7 (by walk_at "up") h4 (app (sub m1) (sub m3)) (by rw [List.length_append]; omega) (hb.mono (by omega)) _ S
  walk_at "yy"
  refine y_iteI (fun c => ?_) (fun c => ?_)
  · walk_at "yy"
    refine z_slTo S hea2 (by omega) fun t1 r1 B3 H b3 h1 m1 l1 S => ?_
    walk_at "yy"
    refine y_ixC S (hea2.up b3) (by omega) (by omega) fun v ev hev hv => ?_
    walk_at "yy"
    refine y_newI S fun ol B4 H b4 hol _ S => ?_
    refine z_catC S (h1.up b4) (At.list (sqL hol) (.cons (hv.up b4) .nil)) (by rw [List.length_singleton]; omega) fun t2 B5 H b5 h2 S => ?_
    walk_at "yy"
    refine z_slFr S (hea2.up (b3.trans (b4.trans b5))) (by omega) fun t3 r3 B6 H b6 h3 m3 l3 S => ?_
    refine z_catC S (h2.up b6) h3 (by rw [List.length_append, List.length_singleton]; omega) fun t4 B7 H b7 h4 S => ?_
    exact k t4 _ o B7 (by walk_at "up") h4 (app (app (sub m1) (one (hok3 ev (List.mem_of_getElem? hev)))) (sub m3)) (by rw [List.length_append, List.length_append, List.length_singleton]; omega) (hb.mono (by omega)) _ S
  walk_at "yy"
  refine y_iteI (fun c => ?_) (fun c => ?_)
  · walk_at "yy"
    refine z_slTo S hea2 (by omega) fun t1 r1 B3 H b3 h1 m1 l1 S => ?_
    walk_at "yy"
    refine z_slM S (hea2.up b3) fun t3 r3 B6 H b6 h3 m3 l3 S => ?_
    refine y_revC S h3 fun t4 B7 H b7 h4 S => ?_
    refine z_catC S (h1.up (b6.trans b7)) h4 (by rw [List.length_reverse]; omega) fun t5 B8 H b8 h5 S => ?_
    walk_at "yy"
    refine z_slFr S (hea2.up (b3.trans (b6.trans (b7.trans b8)))) (by omega) fun t6 r6 B9 H b9 h6 m6 l6 S => ?_
    refine z_catC S (h5.up b9) h6 (by rw [List.length_append, List.length_reverse]; omega) fun t7 B10 H b10 h7 S => ?_
    exact k t7 _ o B10 (by walk_at "up") h7 (app (app (sub m1) (sub fun ev h => m3 ev (List.mem_reverse.mp h))) (sub m6)) (by rw [List.length_append, List.length_append, List.length_reverse]; omega) (hb.mono (by omega)) _ S
  walk_at "yy"
  refine y_iteI (fun c => ?_) (fun c => ?_)
  · walk_at "yy"
    refine z_slTo S hea2 (by omega) fun t1 r1 B3 H b3 h1 m1 l1 S => ?_
    walk_at "yy"
    refine z_slFr S (hea2.up b3) (by omega) fun t3 r3 B6 H b6 h3 m3 l3 S => ?_
    refine z_catC S (h1.up b6) h3 (by omega) fun t4 B7 H b7 h4 S => ?_
    have m4 : ∀ ev ∈ r1 ++ r3, ev ∈ evs := fun ev h => (List.mem_append.mp h).elim (m1 ev) (m3 ev)
    have l4 : (r1 ++ r3).length ≤ evs.length := by rw [List.length_append]; omega
    generalize r1 ++ r3 = r4 at h4 m4 l4
    walk_at "yy"
    refine z_slTo S h4 (by omega) fun t5 r5 C1 H c1 h5 m5 l5 S => ?_
    walk_at "yy"
    refine y_ixC S (hea2.up (b3.trans (b6.trans (b7.trans c1)))) (by omega) (by omega) fun v ev hev hv => ?_
    walk_at "yy"
    refine y_newI S fun ol C2 H c2 hol _ S => ?_
    refine z_catC S (h5.up c2) (At.list (sqL hol) (.cons (hv.up c2) .nil)) (by rw [List.length_singleton]; omega) fun t6 C3 H c3 h6 S => ?_
    walk_at "yy"
    refine z_slFr S (h4.up (c1.trans (c2.trans c3))) (by omega) fun t7 r7 C4 H c4 h7 m7 l7 S => ?_
    refine z_catC S (h6.up c4) h7 (by rw [List.length_append, List.length_singleton]; omega) fun t8 C5 H c5 h8 S => ?_
    exact k t8 _ o C5 (by walk_at "up") h8 (app (app (sub fun ev h => m4 ev (m5 ev h)) (one (hok3 ev (List.mem_of_getElem? hev)))) (sub fun ev h => m4 ev (m7 ev h))) (by rw [List.length_append, List.length_append, List.length_singleton]; omega) (hb.mono (by omega)) _ S
  walk_at "yy"
  refine y_iteI (fun c => ?_) (fun c => ?_)
  · walk_at "yy"
    refine z_slTo S hea2 (by omega) fun t1 r1 B3 H b3 h1 m1 l1 S => ?_
    walk_at "yy"
    refine y_spN 0 S rfl ⟨bg, o, ka, nu, zs, ns, m, rfl, rfl, hb.mono (by omega), hka2.up b3, hz0, hz1, hnA.up b3, hn0, by omega, fun v ev o B4 b4 hv hevo hb H T => ?_⟩
    replace S := S.backN1 0 rfl T
    clear T
    try simp only [List.set] at S
    walk_at "yn"
    refine y_newI S fun ol B5 H b5 hol _ S => ?_
    refine z_catC S (h1.up (b4.trans b5)) (At.list (sqL hol) (.cons (hv.up b5) .nil)) (by rw [List.length_singleton]; omega) fun t2 B6 H b6 h2 S => ?_
    walk_at "yy"
    refine z_slFr S (hea2.up (b3.trans (b4.trans (b5.trans b6)))) (by omega) fun t3 r3 B7 H b7 h3 m3 l3 S => ?_
    refine z_catC S (h2.up b7) h3 (by rw [List.length_append, List.length_singleton]; omega) fun t4 B8 H b8 h4 S => ?_
    exact k t4 _ o B8 (by walk_at "up") h4 (app (app (sub m1) (one (hevo.mono (by omega)))) (sub m3)) (by rw [List.length_append, List.length_append, List.length_singleton]; omega) hb _ S
  walk_at "yy"
  refine y_ixC S hea2 (by omega) (by omega) fun v ev hev hv => ?_
  obtain ⟨ta, ws, rfl, hta, hre, -⟩ := ev_at hv
  have hwl := hre.len
  walk_at "yy"
  rw [List.length_cons]
  refine y_ite (fun c => ?_) (fun c => ?_)
  · omega
  walk_at "yy"
  refine z_slTo S hea2 (by omega) fun t1 r1 B3 H b3 h1 m1 l1 S => ?_
  walk_at "yy"
  refine y_ixC S (hea2.up b3) (by omega) (by omega) fun v2 ev2 hev2 hv2 => ?_
  walk_at "yy"
  refine y_spN 0 S rfl ⟨bg, o, v2, ev2, ka, nu, zs, ns, n, m, rfl, rfl, hb.mono (by omega), hv2, hok ev2 (List.mem_of_getElem? hev2), hn, hka2.up b3, hz0, hz1, hzk, hnA.up b3, hn0, by omega, fun v3 ev3 o B4 b4 hv3 hevo hb H T => ?_⟩
  replace S := S.backN1 0 rfl T
  clear T
  try simp only [List.set] at S
  walk_at "yn"
  refine y_newI S fun ol B5 H b5 hol _ S => ?_
  refine z_catC S (h1.up (b4.trans b5)) (At.list (sqL hol) (.cons (hv3.up b5) .nil)) (by rw [List.length_singleton]; omega) fun t2 B6 H b6 h2 S => ?_
  walk_at "yy"
  refine z_slFr S (hea2.up (b3.trans (b4.trans (b5.trans b6)))) (by omega) fun t3 r3 B7 H b7 h3 m3 l3 S => ?_
  refine z_catC S (h2.up b7) h3 (by rw [List.length_append, List.length_singleton]; omega) fun t4 B8 H b8 h4 S => ?_
  exact k t4 _ o B8 (by walk_at "up") h4 (app (app (sub m1) (one hevo)) (sub m3)) (by rw [List.length_append, List.length_append, List.length_singleton]; omega) hb _ S
theorem ok_l_turned (T : Tx w K mg) : Ok P w K mg base 6 "_law_turned" ["well", "events", "keys"] (spY (φ_turned K)) :=
  Ok.of T.F_l_turned T.g_l_turned (fun _ _ _ _ _ _ us hl => match us, hl with | [_, _, _], _ => rfl) (fn_l_turned T)

theorem y_neOI {H : Hp} {Q : VK} {o u : Option Int} (q : Q (.bl (!decide (o = u))) H) : rNeZ K (wV o) (wV u) H Q := by
  refine .inr ⟨Cod.optI.enc o, Cod.optI.enc u, atOptI o, atOptI u, Cod.Pl .optI o (by decide), Cod.Pl .optI u (by decide), ?_⟩
  rw [Cod.dec]
  exact q
theorem fn_law (T : Tx w K mg) (fd : FuncData) (F : FunD K "law" "law" (defArgs s_law) (defBody s_law) (defScope s_law) [] [] (He.ga K "law") fd) : FnOk P w K mg base CX0 7 (He.ga K "law") fd ["script"] (spY (φ_law K)) := by
  refine fnY F sc_law (fun B vs L k h => by obtain ⟨_, _, rfl, _⟩ := h; rfl) (fun cdv A outer s H vs Q E B L e hz he hr S h => ?_)
  obtain ⟨a, ns, rfl, rfl, hq, hlen, k⟩ := h
  refine ⟨_, (pss_cons (ps_set (i := 1) sc_law.nd rfl (.inl rfl) (pe_callO (ok_l_well (K := K) T) (hr.mono (by decide)) (by rfl) (pa_cons (pe_op op_modU (pe_callO (ok_l_cell_at (K := K) T) (hr.mono (by decide)) (by rfl) (pa_cons (pv 0) (pa_cons pe_int pa_nil))) (pe_op op_powU pe_int pe_int)) (pa_cons pe_int pa_nil))))
      (pss_cons (ps_set (i := 2) sc_law.nd rfl (.inl rfl) (pe_callTy call_intU (by rfl) T.n_int (by decide +kernel) (pa_cons (pe_cmpR (op_eqZ (K := K) rfl hr.units) (pe_callO (ok_l_draw (K := K) T) (hr.mono (by decide)) (by rfl) (pa_cons (pv 1) (pa_cons pe_int pa_nil))) pe_int (nomark _)) pa_nil)))
      (pss_cons (ps_asg (pe_callO (ok_l_history (K := K) T) (hr.mono (by decide)) (by rfl) (pa_cons (pv 0) (pa_cons pe_int (pa_cons pe_int (pa_cons (pv 2) pa_nil))))) (pg_tupK (K := K) (n := 2) rfl rfl (pgs_cons (pg_name (i := 3) sc_law.nd rfl (.inl rfl)) (pgs_cons (pg_name (i := 4) sc_law.nd rfl (.inl rfl)) pgs_nil))))
      (pss_cons (ps_for PassesOwn.never rfl (pi_range1 (by rfl) T.n_range (pa_cons pe_int pa_nil)) (pg_name (i := 5) sc_law.nd rfl (.inl rfl))
      (pss_cons (ps_set (i := 6) sc_law.nd rfl (.inl rfl) (pe_callO (ok_l_well (K := K) T) (hr.mono (by decide)) (by rfl) (pa_cons (pe_op op_modU (pe_callO (ok_l_cell_at (K := K) T) (hr.mono (by decide)) (by rfl) (pa_cons (pv 0) (pa_cons (pv 5) pa_nil))) (pe_op op_powU pe_int pe_int)) (pa_cons (pe_op (op_addU (K := K) rfl) pe_int (pv 5)) pa_nil))))
      (pss_cons (ps_set (i := 7) sc_law.nd rfl (.inl rfl) (pe_callO (ok_l_turned (K := K) T) hr (by rfl) (pa_cons (pv 6) (pa_cons (pv 4) (pa_cons (pv 3) pa_nil)))))
      (pss_cons (ps_if (PW.pt (pw_and (pt_cmpR (op_eqZ (K := K) rfl hr.units) (pe_callO (ok_l_draw (K := K) T) (hr.mono (by decide)) (by rfl) (pa_cons (pv 6) (pa_cons pe_int pa_nil))) pe_int (nomark _)) (pw_and1 (pt_cmpR (op_neZ (K := K) rfl hr.units) (pv 7) (pe_lst pa_nil) (nomark _)))))
      (pss_one (ps_set (i := 7) sc_law.nd rfl (.inl rfl) (pe_callO (ok_l_turned (K := K) T) hr (by rfl) (pa_cons (pv 6) (pa_cons (pv 7) (pa_cons (pv 3) pa_nil))))))
      pss_nil)
      (pss_cons (ps_set (i := 8) sc_law.nd rfl (.inl rfl) (pe_callO (ok_l_judged (K := K) T) (hr.mono (by decide)) (by rfl) (pa_cons (pv 7) pa_nil)))
      (pss_cons (ps_set (i := 9) sc_law.nd rfl (.inl rfl) (pe_callO (ok_l_copied (K := K) T) (hr.mono (by decide)) (by rfl) (pa_cons (pv 7) pa_nil)))
      (pss_cons (ps_set (i := 10) sc_law.nd rfl (.inl rfl) (pe_callO (ok_wrong (K := K) T) (hr.mono (by decide)) (by rfl) (pa_cons (pv 9) pa_nil)))
      (pss_one (ps_if (PW.pt (pw_or (pt_cmpR (op_neZ (K := K) rfl hr.units) (pv 10) (pv 8) (nomark _)) (pw_or (pt_val (pe_callB (call_isiZ (K := K) rfl) (by rfl) T.n_isinstance (by decide +kernel) (pa_cons (pv 10) (pa_cons (pe_bltn (v := .ty "bool") (u := .type "bool") (by rfl) T.n_bool (by decide +kernel) rfl) pa_nil)))) (pw_or1 (pt_cmpR (op_neZ (K := K) rfl hr.units) (pv 9) (pv 7) (nomark _))))))
      (pss_one (ps_ret pe_bl))
      pss_nil)))))))))
      (pss_one (ps_ret (pe_cmpR op_isU (pe_callO (ok_wrong (K := K) T) (hr.mono (by decide)) (by rfl) (pa_cons (pv 4) pa_nil)) pe_non (nomark _)))))))), ?_⟩
  walk_at "yn"
  refine y_cell S hq (by omega) fun c H S => ?_
  walk_at "yn"
  refine y_powI (pow_ok (b := 4) (by decide) (by decide) (by decide) (by decide) (by decide)) ?_
  rw [show (10 : Int) ^ (17 : Int).toNat = 100000000000000000 from by decide]
  walk_at "yn"
  refine y_bag S (by omega) (by omega) fun hg o H hhg0 hb S => ?_
  walk_at "yn"
  refine y_drawN 0 S rfl hb (by omega) (by omega) (by omega) fun fd0 o H fd00 fd01 hb S => ?_
  try simp only [List.set] at S
  walk_at "yn"
  replace S := S.none
  generalize hfe : (if decide (V.int fd0 = V.int 0) = true then (1 : Int) else 0) = fl
  have hfl : fl = 0 ∨ fl = 1 := by
    rw [← hfe]
    split
    · exact .inr rfl
    · exact .inl rfl
  refine y_sp0 S ⟨a, ns, 4, 60, fl, rfl, rfl, hq, hlen, by decide, by decide, by decide, by decide, hfl, fun t ka ea zs evs s5 B2 b2 ht hka hea hho hz0 hz1 hzk hnd hel hne hnf H T => ?_⟩
  replace S := S.back0 T
  clear T
  have hel : evs.length ≤ 60 := hel
  have hevo : ∀ ev ∈ evs, Evo zs 100 ev := fun ev h => ⟨hho.e ev h, hho.r ev h⟩
  walk_at "yn"
  refine y_forR (fun i σ H => ∃ (B3 : Hp), (∃ (y1 y2 y5 y6 y7 y8 y9 y10 : Option V), σ = [some (.ref a), y1, y2, some (.ref ka), some (.ref ea), y5, y6, y7, y8, y9, y10]) ∧ Same B2 B3 ∧ Sy e B3 H []) ⟨B2, ⟨_, _, _, _, _, _, _, _, rfl⟩, Same.refl _, S⟩ ?_ ?_
  · clear S
    rintro i σ H hi ⟨B3, ⟨y1, y2, y5, y6, y7, y8, y9, y10, rfl⟩, b3, S⟩
    walk_at "yn"
    refine y_cell S (up_l (b2.trans b3) hq) (by omega) fun c H S => ?_
    walk_at "yn"
    refine y_powI (pow_ok (b := 4) (by decide) (by decide) (by decide) (by decide) (by decide)) ?_
    rw [show (10 : Int) ^ (17 : Int).toNat = 100000000000000000 from by decide]
    walk_at "yn"
    refine y_bag S (by omega) (by omega) fun wg o H hwg0 hb S => ?_
    walk_at "yn"
    refine y_spN 0 S rfl ⟨wg, o, ea, ka, evs, zs, 100, 10000, rfl, rfl, hb.mono (by decide), hea.up b3, hevo, by decide, hne, by omega, hka.up b3, hz0, hz1, hzk, fun ta1 evs1 o B4 b4 hta1 hevo1 hel1 hb H T => ?_⟩
    replace S := S.backN1 0 rfl T
    clear T
    try simp only [List.set] at S
    walk_at "yn"
    walk_at "yn"
    refine y_cutS (R := fun σ H => ∃ (B5 : Hp) (tb : Addr) (evs2 : List Ev), (∃ (y1 y2 y5 y6 y8 y9 y10 : Option V), σ = [some (.ref a), y1, y2, some (.ref ka), some (.ref ea), y5, y6, some (.ref tb), y8, y9, y10]) ∧ Same B4 B5 ∧ Sy e B5 H [] ∧ At (.list evC) K B5 (.ref tb) evs2 ∧ (∀ ev ∈ evs2, Evo zs 1000 ev) ∧ evs2.length ≤ 900) (fun nx' hnx => ?_) (fun σ H hR => ?_)
    · refine y_ifS ?_
      refine y_cutT (R := fun b H => ∃ (B5 : Hp) (o : HO), (b = true → evs1 ≠ [] ∧ evs1.length ≤ 300) ∧ Same B4 B5 ∧ Bag 100 o ∧ Sy e B5 H [(wg, o)]) (fun Q' hQ => ?_) (fun bc H hR => ?_)
      · walk_at "yy"
        refine y_drawN 0 S rfl hb (by omega) (by omega) (by omega) fun q4 o H q40 q41 hb S => ?_
        try simp only [List.set] at S
        walk_at "yn"
        refine y_iteI (fun c => ?_) (fun c => ?_)
        · walk_at "yy"
          refine y_newM S fun q0 H hq0 S => ?_
          obtain ⟨v1, hv1, hp1⟩ := at_list_ref hta1
          refine z_neE (S.l hv1) (sqL (S.at 0 rfl)) ?_
          walk_at "yy"
          refine hQ _ _ ⟨B4, o, fun h => ⟨fun z => ?_, by omega⟩, Same.refl _, hb.mono (by decide), S.tail⟩
          have : v1.length = evs1.length := hp1.length
          rw [z] at this
          rw [List.length_eq_zero_iff.mp this] at h
          cases h
        · walk_at "yy"
          exact hQ _ _ ⟨B4, o, fun h => (by cases h), Same.refl _, hb.mono (by decide), S⟩
      clear S hb
      obtain ⟨B5, o, hbc, b5, hb, S⟩ := hR
      refine y_iteB (fun hb1 => ?_) (fun hb1 => ?_)
      · obtain ⟨c1, c2⟩ := hbc hb1
        walk_at "yy"
        refine y_spN 0 S rfl ⟨wg, o, ta1, ka, evs1, zs, 301, 10, rfl, rfl, hb.mono (by decide), hta1.up b5, hevo1, by decide, List.length_pos_iff.mpr c1, c2, hka.up (b3.trans (b4.trans b5)), hz0, hz1, hzk, fun ta2 evs2 o B6 b6 hta2 hevo2 hel2 hb H T => ?_⟩
        replace S := S.backN1 0 rfl T
        clear T
        try simp only [List.set] at S
        walk_at "yn"
        exact hnx _ _ ⟨B6, ta2, evs2, ⟨_, _, _, _, _, _, _, rfl⟩, b5.trans b6, S.none, hta2, fun ev h => (hevo2 ev h).mono (by decide), by omega⟩
      · walk_at "yy"
        exact hnx _ _ ⟨B5, ta1, evs1, ⟨_, _, _, _, _, _, _, rfl⟩, b5, S.none, hta1.up b5, fun ev h => (hevo1 ev h).mono (by decide), by omega⟩
    clear S hb hta1 hevo1
    obtain ⟨B5, tb, evs2, ⟨y1, y2, y5, y6, y8, y9, y10, rfl⟩, b5, S, htb, hevo2, hel2⟩ := hR
    walk_at "yn"
    refine y_sp0 S ⟨tb, evs2, zs, rfl, rfl, htb, fun e h => (hevo2 e h).ok, by omega, hel2, fun B6 b6 H T => ?_⟩
    replace S := S.back0 T
    clear T
    walk_at "yn"
    refine y_sp0 S ⟨tb, evs2, rfl, rfl, htb.up b6, by omega, fun ha B7 b7 hha H T => ?_⟩
    replace S := S.back0 T
    clear T
    walk_at "yn"
    refine y_sp0 S ⟨ha, evs2, zs, rfl, rfl, hha, fun e h => (hevo2 e h).ok, by omega, hel2, fun B8 b8 H T => ?_⟩
    replace S := S.back0 T
    clear T
    walk_at "yn"
    refine y_ifS ?_
    walk_at "yy"
    rw [jV_w]
    refine y_neOI ?_
    rw [decide_eq_true rfl, ← jV_w]
    walk_at "yy"
    refine jV_isb S ?_
    walk_at "yy"
    refine y_neC (.list evC) S (hha.up b8) (htb.up (b6.trans (b7.trans b8))) (by decide) ?_
    rw [decide_eq_true rfl]
    walk_at "yy"
    exact ⟨B8, ⟨_, _, _, _, _, _, _, _, rfl⟩, b3.trans (b4.trans (b5.trans (b6.trans (b7.trans b8)))), S⟩
  clear S
  rintro σ H ⟨B3, ⟨y1, y2, y5, y6, y7, y8, y9, y10, rfl⟩, b3, S⟩
  walk_at "yn"
  refine y_sp0 S ⟨ea, evs, zs, rfl, rfl, hea.up b3, hho.e, by omega, by omega, fun B4 b4 H T => ?_⟩
  replace S := S.back0 T
  clear T
  rw [show wroV evs = none from hho.j, show jV none = .non from rfl]
  walk_at "yy"
  exact k B4 (b2.trans (b3.trans b4)) _ S
theorem fin {h : Heap} {fa : Addr} (X : K.In h) (G : h.Ns mainGlobals mg) (hmg : mg "law" = some (.ref fa)) (T : Tx w K mg) :
    ∃ (K : PySem.W.Frag) (fd : FuncData) (sp : Sp), K.In h ∧ (∀ (s : Shared) (u : Value), BindsTo s fd ⟨[u], []⟩ [("script", u)]) ∧
      (∀ (H : Hp) (a : Addr) (ns : List Int), ns.length ≤ 63 → Only H → SqL K H a (ns.map V.int) → sp [.ref a] H (fun v _ => v = .bl true) fun _ _ _ => False) ∧
        ∀ base : Heap, K.In base → base.Ns mainGlobals mg → FnOk P w K mg base CX0 7 fa fd ["script"] sp := by
  obtain ⟨fd, F⟩ := T.F_law
  have e := hmg.symm.trans T.g_law
  cases e
  have b := FunD.bindsA (ps := ["script"]) F (fun _ _ _ _ _ _ us hl => match us, hl with | [_], _ => rfl)
  exact ⟨K, fd, spY (φ_law K), X, fun s u => b s [u] rfl, fun H a ns hl _ hS => ⟨H, [], ⟨Sub.refl H, fun p hp => (by cases hp), by simp, fun p hp => (by cases hp)⟩, a, ns, rfl, rfl, hS, hl, fun B' _ H' _ => rfl⟩, fun base _ _ => fn_law T fd F⟩

end
section
theorem tx {K : PySem.W.Frag} {h h2 : Heap} {w : World} {mg : Str → Option Value} (X : K.In h) (G : h.Ns mainGlobals mg) (c : He.SaysX faL fnL tabL [] exB w h2 K) : Tx w K mg where
  F_Witness___init__ := c.t.d.def_ 0 (d := d_Witness___init__) rfl
  F_Witness_last_place := c.t.d.def_ 1 (d := d_Witness_last_place) rfl
  F_Doer___init__ := c.t.d.def_ 2 (d := d_Doer___init__) rfl
  F_view_of := c.t.d.def_ 3 (d := d_view_of) rfl
  g_view_of := He.glo_ok X G (c.t.d.fact 0 (f := .glo "view_of") rfl)
  F_is_free := c.t.d.def_ 4 (d := d_is_free) rfl
  g_is_free := He.glo_ok X G (c.t.d.fact 1 (f := .glo "is_free") rfl)
  F_can_begin := c.t.d.def_ 5 (d := d_can_begin) rfl
  g_can_begin := He.glo_ok X G (c.t.d.fact 2 (f := .glo "can_begin") rfl)
  F_can_read := c.t.d.def_ 6 (d := d_can_read) rfl
  g_can_read := He.glo_ok X G (c.t.d.fact 3 (f := .glo "can_read") rfl)
  F_can_scan := c.t.d.def_ 7 (d := d_can_scan) rfl
  g_can_scan := He.glo_ok X G (c.t.d.fact 4 (f := .glo "can_scan") rfl)
  F_can_put := c.t.d.def_ 8 (d := d_can_put) rfl
  g_can_put := He.glo_ok X G (c.t.d.fact 5 (f := .glo "can_put") rfl)
  F_can_drop := c.t.d.def_ 9 (d := d_can_drop) rfl
  g_can_drop := He.glo_ok X G (c.t.d.fact 6 (f := .glo "can_drop") rfl)
  F_can_mark := c.t.d.def_ 10 (d := d_can_mark) rfl
  g_can_mark := He.glo_ok X G (c.t.d.fact 7 (f := .glo "can_mark") rfl)
  F_can_back := c.t.d.def_ 11 (d := d_can_back) rfl
  g_can_back := He.glo_ok X G (c.t.d.fact 8 (f := .glo "can_back") rfl)
  F_can_keep := c.t.d.def_ 12 (d := d_can_keep) rfl
  g_can_keep := He.glo_ok X G (c.t.d.fact 9 (f := .glo "can_keep") rfl)
  F_can_undo := c.t.d.def_ 13 (d := d_can_undo) rfl
  g_can_undo := He.glo_ok X G (c.t.d.fact 10 (f := .glo "can_undo") rfl)
  F_can_fall := c.t.d.def_ 14 (d := d_can_fall) rfl
  g_can_fall := He.glo_ok X G (c.t.d.fact 11 (f := .glo "can_fall") rfl)
  F_can_rise := c.t.d.def_ 15 (d := d_can_rise) rfl
  g_can_rise := He.glo_ok X G (c.t.d.fact 12 (f := .glo "can_rise") rfl)
  F_can_be := c.t.d.def_ 16 (d := d_can_be) rfl
  g_can_be := He.glo_ok X G (c.t.d.fact 13 (f := .glo "can_be") rfl)
  F_wrong := c.t.d.def_ 17 (d := d_wrong) rfl
  g_wrong := He.glo_ok X G (c.t.d.fact 14 (f := .glo "wrong") rfl)
  F_l_cell_at := c.t.d.def_ 18 (d := d_l_cell_at) rfl
  g_l_cell_at := He.glo_ok X G (c.t.d.fact 15 (f := .glo "_law_cell_at") rfl)
  F_l_stir := c.t.d.def_ 19 (d := d_l_stir) rfl
  g_l_stir := He.glo_ok X G (c.t.d.fact 16 (f := .glo "_law_stir") rfl)
  F_l_well := c.t.d.def_ 20 (d := d_l_well) rfl
  g_l_well := He.glo_ok X G (c.t.d.fact 17 (f := .glo "_law_well") rfl)
  F_l_draw := c.t.d.def_ 21 (d := d_l_draw) rfl
  g_l_draw := He.glo_ok X G (c.t.d.fact 18 (f := .glo "_law_draw") rfl)
  F_l_new_name := c.t.d.def_ 22 (d := d_l_new_name) rfl
  g_l_new_name := He.glo_ok X G (c.t.d.fact 19 (f := .glo "_law_new_name") rfl)
  F_l_new_state := c.t.d.def_ 23 (d := d_l_new_state) rfl
  g_l_new_state := He.glo_ok X G (c.t.d.fact 20 (f := .glo "_law_new_state") rfl)
  F_l_sees := c.t.d.def_ 24 (d := d_l_sees) rfl
  g_l_sees := He.glo_ok X G (c.t.d.fact 21 (f := .glo "_law_sees") rfl)
  F_l_keys_of := c.t.d.def_ 25 (d := d_l_keys_of) rfl
  g_l_keys_of := He.glo_ok X G (c.t.d.fact 22 (f := .glo "_law_keys_of") rfl)
  F_l_scanned := c.t.d.def_ 26 (d := d_l_scanned) rfl
  g_l_scanned := He.glo_ok X G (c.t.d.fact 23 (f := .glo "_law_scanned") rfl)
  F_l_free := c.t.d.def_ 27 (d := d_l_free) rfl
  g_l_free := He.glo_ok X G (c.t.d.fact 24 (f := .glo "_law_free") rfl)
  F_l_places := c.t.d.def_ 28 (d := d_l_places) rfl
  g_l_places := He.glo_ok X G (c.t.d.fact 25 (f := .glo "_law_places") rfl)
  F_l_deed_can := c.t.d.def_ 29 (d := d_l_deed_can) rfl
  g_l_deed_can := He.glo_ok X G (c.t.d.fact 26 (f := .glo "_law_deed_can") rfl)
  F_l_can := c.t.d.def_ 30 (d := d_l_can) rfl
  g_l_can := He.glo_ok X G (c.t.d.fact 27 (f := .glo "_law_can") rfl)
  F_l_happens := c.t.d.def_ 31 (d := d_l_happens) rfl
  g_l_happens := He.glo_ok X G (c.t.d.fact 28 (f := .glo "_law_happens") rfl)
  F_l_judged := c.t.d.def_ 32 (d := d_l_judged) rfl
  g_l_judged := He.glo_ok X G (c.t.d.fact 29 (f := .glo "_law_judged") rfl)
  F_l_worth := c.t.d.def_ 33 (d := d_l_worth) rfl
  g_l_worth := He.glo_ok X G (c.t.d.fact 30 (f := .glo "_law_worth") rfl)
  F_l_edge := c.t.d.def_ 34 (d := d_l_edge) rfl
  g_l_edge := He.glo_ok X G (c.t.d.fact 31 (f := .glo "_law_edge") rfl)
  F_l_begun := c.t.d.def_ 35 (d := d_l_begun) rfl
  g_l_begun := He.glo_ok X G (c.t.d.fact 32 (f := .glo "_law_begun") rfl)
  F_l_deed := c.t.d.def_ 36 (d := d_l_deed) rfl
  g_l_deed := He.glo_ok X G (c.t.d.fact 33 (f := .glo "_law_deed") rfl)
  F_l_raised := c.t.d.def_ 37 (d := d_l_raised) rfl
  g_l_raised := He.glo_ok X G (c.t.d.fact 34 (f := .glo "_law_raised") rfl)
  F_l_history := c.t.d.def_ 38 (d := d_l_history) rfl
  g_l_history := He.glo_ok X G (c.t.d.fact 35 (f := .glo "_law_history") rfl)
  F_l_row_turned := c.t.d.def_ 39 (d := d_l_row_turned) rfl
  g_l_row_turned := He.glo_ok X G (c.t.d.fact 36 (f := .glo "_law_row_turned") rfl)
  F_l_near := c.t.d.def_ 40 (d := d_l_near) rfl
  g_l_near := He.glo_ok X G (c.t.d.fact 37 (f := .glo "_law_near") rfl)
  F_l_event_turned := c.t.d.def_ 41 (d := d_l_event_turned) rfl
  g_l_event_turned := He.glo_ok X G (c.t.d.fact 38 (f := .glo "_law_event_turned") rfl)
  F_l_foreign := c.t.d.def_ 42 (d := d_l_foreign) rfl
  g_l_foreign := He.glo_ok X G (c.t.d.fact 39 (f := .glo "_law_foreign") rfl)
  F_l_turned := c.t.d.def_ 43 (d := d_l_turned) rfl
  g_l_turned := He.glo_ok X G (c.t.d.fact 40 (f := .glo "_law_turned") rfl)
  F_l_copied := c.t.d.def_ 44 (d := d_l_copied) rfl
  g_l_copied := He.glo_ok X G (c.t.d.fact 41 (f := .glo "_law_copied") rfl)
  F_law := c.t.d.def_ 45 (d := d_law) rfl
  g_law := He.glo_ok X G (c.t.d.fact 42 (f := .glo "law") rfl)
  n_any := He.free_ok X G (c.t.d.fact 43 (f := .free "any") rfl)
  n_bool := He.free_ok X G (c.t.d.fact 44 (f := .free "bool") rfl)
  n_dict := He.free_ok X G (c.t.d.fact 45 (f := .free "dict") rfl)
  n_enumerate := He.free_ok X G (c.t.d.fact 46 (f := .free "enumerate") rfl)
  n_int := He.free_ok X G (c.t.d.fact 47 (f := .free "int") rfl)
  n_isinstance := He.free_ok X G (c.t.d.fact 48 (f := .free "isinstance") rfl)
  n_len := He.free_ok X G (c.t.d.fact 49 (f := .free "len") rfl)
  n_list := He.free_ok X G (c.t.d.fact 50 (f := .free "list") rfl)
  n_max := He.free_ok X G (c.t.d.fact 51 (f := .free "max") rfl)
  n_range := He.free_ok X G (c.t.d.fact 52 (f := .free "range") rfl)
  n_sorted := He.free_ok X G (c.t.d.fact 53 (f := .free "sorted") rfl)
  n_str := He.free_ok X G (c.t.d.fact 54 (f := .free "str") rfl)
  g_OF_DEALINGS := He.glo_ok X G (c.t.d.fact 55 (f := .glo "OF_DEALINGS") rfl)
  kp_OF_DEALINGS_read := He.keep_ok (c.t.d.fact 56 (f := .keep "can_read") rfl)
  kp_OF_DEALINGS_scan := He.keep_ok (c.t.d.fact 57 (f := .keep "can_scan") rfl)
  kp_OF_DEALINGS_put := He.keep_ok (c.t.d.fact 58 (f := .keep "can_put") rfl)
  kp_OF_DEALINGS_drop := He.keep_ok (c.t.d.fact 59 (f := .keep "can_drop") rfl)
  kp_OF_DEALINGS_mark := He.keep_ok (c.t.d.fact 60 (f := .keep "can_mark") rfl)
  kp_OF_DEALINGS_back := He.keep_ok (c.t.d.fact 61 (f := .keep "can_back") rfl)
  kp_OF_DEALINGS_keep := He.keep_ok (c.t.d.fact 62 (f := .keep "can_keep") rfl)
  kp_OF_DEALINGS_undo := He.keep_ok (c.t.d.fact 63 (f := .keep "can_undo") rfl)
  g_Witness := He.glo_ok X G (c.t.d.fact 64 (f := .glo "Witness") rfl)
  cl_Witness := He.cls_ok (c.t.d.fact 65 (f := .cls "Witness") rfl)
  na_Witness_base := He.noat_ok (c.t.d.fact 66 (f := .noat "Witness" "base") rfl)
  na_Witness_sheets := He.noat_ok (c.t.d.fact 67 (f := .noat "Witness" "sheets") rfl)
  na_Witness_keepers := He.noat_ok (c.t.d.fact 68 (f := .noat "Witness" "keepers") rfl)
  na_Witness_doers := He.noat_ok (c.t.d.fact 69 (f := .noat "Witness" "doers") rfl)
  me_Witness___init__ := He.meth_ok (c.t.d.fact 70 (f := .meth "Witness" "__init__") rfl)
  me_Witness_last_place := He.meth_ok (c.t.d.fact 71 (f := .meth "Witness" "last_place") rfl)
  mk_Witness := He.mkr_ok (c.t.d.fact 72 (f := .mkr "Witness") rfl)
  g_Doer := He.glo_ok X G (c.t.d.fact 73 (f := .glo "Doer") rfl)
  cl_Doer := He.cls_ok (c.t.d.fact 74 (f := .cls "Doer") rfl)
  na_Doer_since := He.noat_ok (c.t.d.fact 75 (f := .noat "Doer" "since") rfl)
  na_Doer_writes := He.noat_ok (c.t.d.fact 76 (f := .noat "Doer" "writes") rfl)
  me_Doer___init__ := He.meth_ok (c.t.d.fact 77 (f := .meth "Doer" "__init__") rfl)
  mk_Doer := He.mkr_ok (c.t.d.fact 78 (f := .mkr "Doer") rfl)
  k_OF_DEALINGS_read := kdct_of (c.t.tab 0 rfl) (He.valsB_ok (exAt c.more 0 rfl) (q := ("read", .glo "can_read")) (List.mem_of_getElem? (i := 0) rfl))
  k_OF_DEALINGS_scan := kdct_of (c.t.tab 0 rfl) (He.valsB_ok (exAt c.more 0 rfl) (q := ("scan", .glo "can_scan")) (List.mem_of_getElem? (i := 1) rfl))
  k_OF_DEALINGS_put := kdct_of (c.t.tab 0 rfl) (He.valsB_ok (exAt c.more 0 rfl) (q := ("put", .glo "can_put")) (List.mem_of_getElem? (i := 2) rfl))
  k_OF_DEALINGS_drop := kdct_of (c.t.tab 0 rfl) (He.valsB_ok (exAt c.more 0 rfl) (q := ("drop", .glo "can_drop")) (List.mem_of_getElem? (i := 3) rfl))
  k_OF_DEALINGS_mark := kdct_of (c.t.tab 0 rfl) (He.valsB_ok (exAt c.more 0 rfl) (q := ("mark", .glo "can_mark")) (List.mem_of_getElem? (i := 4) rfl))
  k_OF_DEALINGS_back := kdct_of (c.t.tab 0 rfl) (He.valsB_ok (exAt c.more 0 rfl) (q := ("back", .glo "can_back")) (List.mem_of_getElem? (i := 5) rfl))
  k_OF_DEALINGS_keep := kdct_of (c.t.tab 0 rfl) (He.valsB_ok (exAt c.more 0 rfl) (q := ("keep", .glo "can_keep")) (List.mem_of_getElem? (i := 6) rfl))
  k_OF_DEALINGS_undo := kdct_of (c.t.tab 0 rfl) (He.valsB_ok (exAt c.more 0 rfl) (q := ("undo", .glo "can_undo")) (List.mem_of_getElem? (i := 7) rfl))
end
end K59
open PySem PySem.W PySem.Calls PyProof.Rows
theorem PySem.Challenge.cw_slotkeep_k59_histories_that_cannot_be_holds : PySem.Challenge.rw_slotkeep_k59_histories_that_cannot_be.Holds := by
  w_on; o_law
  refine HandSHeadRun.head_any (r := OpenLaw.row PySem.Challenge.rw_slotkeep_k59_histories_that_cannot_be) (q := view (OpenLaw.row PySem.Challenge.rw_slotkeep_k59_histories_that_cannot_be).prog [47]) (H := K59.hk) (ob := K59.ob) (M := 3000) (loose := K59.looseL) (d := HandSHeadRun.topDef (OpenLaw.row PySem.Challenge.rw_slotkeep_k59_histories_that_cannot_be).prog 47) (kwd := []) K59.ob_eq
    (by kernel_rfl) (fun s => by kernel_rfl) K59.run (by kernel_rfl) (by kernel_rfl) (by kernel_rfl) (by rfl) (by first | assumption | decide +kernel) (by decide +kernel) ⟨rfl, rfl, rfl, rfl, rfl, by decide +kernel⟩ ?hw ?hc
  case hw => w_witness2
  case hc =>
    refine L2.walk_ofE (l := PySem.Challenge.rw_slotkeep_k59_histories_that_cannot_be) (n := 63) (k := 7) (x := "script") (CX := L2.CX0) rfl (by decide) (by kernel_rfl) ⟨rfl, by decide, by decide⟩ ?F (fun _ _ _ _ z => z)
    intro w mg fa h Y G hmg0
    obtain ⟨K, KX, c⟩ := Y
    have hmg : mg ("law" : PySem.Str) = some (.ref fa) := by
      have e : (HandSHeadRun.topDef (OpenLaw.row PySem.Challenge.rw_slotkeep_k59_histories_that_cannot_be).prog 47).name = ("law" : PySem.Str) := by kernel_rfl
      rw [← e]
      exact hmg0
    exact K59.fin (P := (PySem.Challenge.rw_slotkeep_k59_histories_that_cannot_be).prog) (w := w) KX G hmg (K59.tx KX G c)
