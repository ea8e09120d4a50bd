import PyProof.Rows.All
import Wide.All
import OpenK.AllK
import Wide.FinOn
import HandS.ForMost
import HandS.Walk
import HandS.Wide
import HandS.DeepEq
import HandS.DictComp
import KE.KEqNest
import PyProof.NeKinds
import HandS.SortRule
import HandS.SortInts
import HandS.Defaults
import HandS.Flow
import HandS.Head0
import HandS.Head1
import HandS.Head2
import HandS.HeadEnd
import HandS.HeadHook1
import HandS.HeadHook2
import HandS.More
import KE.DataMinMax
import PyProof.DictWalks
import HandS.IsInst
import OpenK.KEqL
import KE.DataEq
import HandS.Replace
import HandS.MakeKw
import HandS.MakeKwOnly
import HandS.New0
import KE.SortKeyHeap
import PyProof.Rows.SortWalk
import HandS.Conv
import HandS.ExcInit
import HandS.ExcValue
import HandS.ExcIs
import HandS.ExcField
import KE.KExcIs
import HandS.HeadHook4
import HandS.Set
import HandS.SetKeys
import PyProof.Rows.SetFrom
import HandS.SortKw
import HandS.Style
import KE.DatumOrd
import HandS.DictEq
import PyProof.P3Eq
import PyProof.Rows.SeqMore
import PySem.Challenge.RW_slotkeep_k13_long_lists_of_dealings
set_option Elab.async false
set_option linter.all false
set_option maxRecDepth 100000
set_option maxHeartbeats 4000000
/-! The symbolic state over the hand layer: a ghost base B (what is never changed again), the heap H, a ledger L of what may be changed. -/
namespace Y
open PySem PySem.Spec PyProof.Rows L2

abbrev Led := List (Addr × HO)

/-- a dict -/
def Dk : HO → Prop
  | .dK _ => True
  | .dT _ => True
  | _ => False
/-- no tuple -/
def NT (o : HO) : Prop := ∀ xs, o ≠ .tup xs
/-- what stands in B stands in H, a dict locked perhaps -/
def Sub (B H : Hp) : Prop := ∀ a o, B a = some o → H a = some o ∨ (Dk o ∧ ∃ ob, H a = some (.frz ob o))

/-- the entry: what may change (M), what is locked since (Z), the base, the heap -/
structure En where
  M : List Addr
  Z : List (Addr × Obj × HO)
  B : Hp
  H : Hp

structure Sy (e : En) (B H : Hp) (L : Led) : Prop where
  b0 : Same e.B B
  bh : Sub B H
  led : ∀ p ∈ L, H p.1 = some p.2 ∧ B p.1 = none ∧ (p.1 ∈ e.M ∨ e.H p.1 = none) ∧ p.1 ∉ e.Z.map (·.1)
  nd : (L.map (·.1)).Nodup
  keep : ∀ a o, a ∉ e.M → a ∉ e.Z.map (·.1) → e.H a = some o → H a = some o
  fresh : ∀ a, e.H a ≠ none → e.B a = none → B a = none ∨ ∃ xs, B a = some (.tup xs)
  there : ∀ a, e.H a ≠ none → H a ≠ none
  zin : ∀ p ∈ e.Z, H p.1 = some (.frz p.2.1 p.2.2)
  lk : ∀ a o, B a = some o → Dk o → H a = some o ∨ a ∈ e.Z.map (·.1) ∨ ∃ ob u, e.H a = some (.frz ob u)
  nt : ∀ p ∈ L, NT p.2

/-- what a caller hands over -/
structure Hand (B H : Hp) (L : Led) : Prop where
  bh : Sub B H
  led : ∀ p ∈ L, H p.1 = some p.2 ∧ B p.1 = none
  nd : (L.map (·.1)).Nodup
  nt : ∀ p ∈ L, NT p.2

theorem Sub.refl (B : Hp) : Sub B B := fun _ _ h => .inl h
theorem Sub.of {B H : Hp} (h : Same B H) : Sub B H := fun a o e => .inl (h a o e)
theorem Sub.after {B B' H : Hp} (s : Same B B') (h : Sub B' H) : Sub B H := fun a o e => h a o (s a o e)


section
variable {e : En} {B B' H H' : Hp} {L R : Led} {a b p : Addr} {o o' u : HO} {K : PySem.W.Frag} {v : V} {dd : PyData} {xs : List V}

theorem Sub.rd (h : Sub B H) (r : Rd B a u) : Rd H a u := by
  rcases r with r | ⟨ob, r⟩
  · rcases h a _ r with q | ⟨_, ob, q⟩
    · exact .inl q
    · exact .inr ⟨ob, q⟩
  · rcases h a _ r with q | ⟨m, _⟩
    · exact .inr ⟨ob, q⟩
    · exact m.elim
theorem Sub.l (h : Sub B H) (r : SqL K B a xs) : SqL K H a xs := by
  rcases r with r | r
  · exact .inl (h.rd r)
  · exact .inr r
theorem Sub.t (h : Sub B H) (r : SqT K B a xs) : SqT K H a xs := by
  rcases r with r | r
  · exact .inl (h.rd r)
  · exact .inr r
theorem Sub.tup (h : Sub B H) (r : B a = some (.tup xs)) : H a = some (.tup xs) := by
  rcases h a _ r with q | ⟨m, _⟩
  · exact q
  · exact m.elim
theorem Sub.lst (h : Sub B H) (r : B a = some (.lst xs)) : H a = some (.lst xs) := by
  rcases h a _ r with q | ⟨m, _⟩
  · exact q
  · exact m.elim
theorem Sub.ins {C dx : Addr} {fs : List (Str × V)} (h : Sub B H) (r : B a = some (.ins C dx fs)) : H a = some (.ins C dx fs) := by
  rcases h a _ r with q | ⟨m, _⟩
  · exact q
  · exact m.elim

mutual
theorem Sub.d (h : Sub B H) : ∀ {d : PyData} {v : V}, Dp K B v d → Dp K H v d
  | _, _, .non => .non
  | _, _, .bl b => .bl b
  | _, _, .int i => .int i
  | _, _, .str x => .str x
  | _, _, .lst r q => .lst (h.l r) (Sub.ds h q)
  | _, _, .tup r q => .tup (h.t r) (Sub.ds h q)
theorem Sub.ds (h : Sub B H) : ∀ {ds : List PyData} {vs : List V}, DpAll K B vs ds → DpAll K H vs ds
  | _, _, .nil => .nil
  | _, _, .cons r q => .cons (Sub.d h r) (Sub.ds h q)
end
theorem Sub.of' (h : Same B B') : Sub B B' := Sub.of h
theorem up_d (h : Same B B') (r : Dp K B v dd) : Dp K B' v dd := Sub.d (Sub.of h) r
theorem up_l (h : Same B B') (r : SqL K B a xs) : SqL K B' a xs := (Sub.of h).l r
theorem up_t (h : Same B B') (r : SqT K B a xs) : SqT K B' a xs := (Sub.of h).t r
theorem up_o (h : Same B B') (r : B a = some o) : B' a = some o := h a o r

theorem Hand.start (h : Hand B H L) : Sy ⟨L.map (·.1), [], B, H⟩ B H L :=
  ⟨Same.refl B, h.bh, fun p hp => ⟨(h.led p hp).1, (h.led p hp).2, .inl (List.mem_map.mpr ⟨p, hp, rfl⟩), by simp⟩, h.nd, fun _ _ _ _ q => q, fun _ _ q => .inl q, fun _ q => q, fun _ q => absurd q (by simp), fun a o q hk => (h.bh a o q).elim .inl fun z => .inr (.inr ⟨_, _, z.2.choose_spec⟩), h.nt⟩

/-- only some of the ledger -/
theorem Sy.sub (S : Sy e B H L) {L' : Led} (h : L'.Sublist L) : Sy e B H L' :=
  ⟨S.b0, S.bh, fun p hp => S.led p (h.subset hp), S.nd.sublist (h.map _), S.keep, S.fresh, S.there, S.zin, S.lk, fun p hp => S.nt p (h.subset hp)⟩
theorem Sy.perm (S : Sy e B H L) {L' : Led} (h : L.Perm L') : Sy e B H L' :=
  ⟨S.b0, S.bh, fun p hp => S.led p (h.mem_iff.mpr hp), (h.map _).nodup_iff.mp S.nd, S.keep, S.fresh, S.there, S.zin, S.lk, fun p hp => S.nt p (h.mem_iff.mpr hp)⟩
theorem Sy.none (S : Sy e B H L) : Sy e B H [] := S.sub (List.nil_sublist _)
theorem Sy.tail {q : Addr × HO} (S : Sy e B H (q :: L)) : Sy e B H L := S.sub (List.sublist_cons_self _ _)
theorem Sy.drop1 {q1 q2 : Addr × HO} (S : Sy e B H (q1 :: q2 :: L)) : Sy e B H (q1 :: L) := S.sub ((List.sublist_cons_self _ _).cons_cons _)
theorem Sy.drop2 {q1 q2 q3 : Addr × HO} (S : Sy e B H (q1 :: q2 :: q3 :: L)) : Sy e B H (q1 :: q2 :: L) := S.sub (((List.sublist_cons_self _ _).cons_cons _).cons_cons _)
theorem Sy.swap {q1 q2 : Addr × HO} (S : Sy e B H (q1 :: q2 :: L)) : Sy e B H (q2 :: q1 :: L) := S.perm (List.Perm.swap _ _ _)

/-- a new thing that is never changed again -/
theorem Sy.newI (S : Sy e B H L) (h : H p = Option.none) : Same B (upd B p o) ∧ Sy e (upd B p o) (upd H p o) L := by
  have hB : B p = Option.none := by
    cases q : B p with
    | none => rfl
    | some x => rcases S.bh p x q with r | ⟨_, _, r⟩ <;> (rw [h] at r; cases r)
  have sb : Same B (upd B p o) := fun a x q => by rw [upd_ne (ne_of_none q hB)]; exact q
  have hH0 : e.H p = Option.none := by
    cases q : e.H p with
    | none => rfl
    | some x => exact absurd h (S.there p (by rw [q]; simp))
  refine ⟨sb, S.b0.trans sb, fun a x q => ?_, fun q hq => ?_, S.nd, fun a x h1 h2 q => ?_, fun a q1 q2 => ?_, fun a q => ?_, fun a q => ?_, fun a x q hk => ?_, S.nt⟩
  · by_cases ha : a = p
    · subst ha; rw [upd_same] at q; cases q; exact .inl upd_same
    · rw [upd_ne ha] at q
      rw [upd_ne ha]; exact S.bh a x q
  · obtain ⟨q1, q2, q3, q4⟩ := S.led q hq
    have ne : q.1 ≠ p := ne_of_none q1 h
    exact ⟨by rw [upd_ne ne]; exact q1, by rw [upd_ne ne]; exact q2, q3, q4⟩
  · have r := S.keep a x h1 h2 q
    rw [upd_ne (ne_of_none r h)]; exact r
  · have ne : a ≠ p := fun z => by subst z; exact q1 hH0
    rw [upd_ne ne]; exact S.fresh a q1 q2
  · have r := S.there a q
    have ne : a ≠ p := fun z => by subst z; exact r h
    rw [upd_ne ne]; exact r
  · have r := S.zin a q
    rw [upd_ne (ne_of_none r h)]; exact r
  · by_cases ha : a = p
    · subst ha; rw [upd_same] at q; cases q; exact .inl upd_same
    · rw [upd_ne ha] at q
      rw [upd_ne ha]; exact S.lk a x q hk
/-- a new thing that may be changed -/
theorem Sy.newM (S : Sy e B H L) (h : H p = Option.none) (no : NT o := by intro _ z; cases z) : e.H p = Option.none ∧ Sy e B (upd H p o) ((p, o) :: L) := by
  have hB : B p = Option.none := by
    cases q : B p with
    | none => rfl
    | some x => rcases S.bh p x q with r | ⟨_, _, r⟩ <;> (rw [h] at r; cases r)
  have hH0 : e.H p = Option.none := by
    cases q : e.H p with
    | none => rfl
    | some x => exact absurd h (S.there p (by rw [q]; simp))
  refine ⟨hH0, S.b0, fun a x q => ?_, fun q hq => ?_, ?_, fun a x h1 h2 q => ?_, S.fresh, fun a q => ?_, fun a q => ?_, fun a x q hk => ?_, fun q hq => (List.mem_cons.mp hq).elim (fun z => by rw [z]; exact no) (S.nt q)⟩
  · rw [upd_ne (ne_of_none q hB)]; exact S.bh a x q
  · rcases List.mem_cons.mp hq with rfl | hq
    · exact ⟨upd_same, hB, .inr hH0, fun z => by
        obtain ⟨q, hq, e1⟩ := List.mem_map.mp z
        have := S.zin q hq
        rw [show q.1 = p from e1, h] at this; cases this⟩
    · obtain ⟨q1, q2, q3, q4⟩ := S.led q hq
      exact ⟨by rw [upd_ne (ne_of_none q1 h)]; exact q1, q2, q3, q4⟩
  · rw [List.map_cons]
    refine List.nodup_cons.mpr ⟨fun hm => ?_, S.nd⟩
    obtain ⟨q, hq, e1⟩ := List.mem_map.mp hm
    have := (S.led q hq).1
    rw [show q.1 = p from e1, h] at this; cases this
  · have r := S.keep a x h1 h2 q
    rw [upd_ne (ne_of_none r h)]; exact r
  · have r := S.there a q
    have ne : a ≠ p := fun z => by subst z; exact r h
    rw [upd_ne ne]; exact r
  · have r := S.zin a q
    rw [upd_ne (ne_of_none r h)]; exact r
  · rw [upd_ne (ne_of_none q hB)]; exact S.lk a x q hk
/-- a new thing that nobody asks any more -/
theorem Sy.newG (S : Sy e B H L) (h : H p = Option.none) : Sy e B (upd H p o) L := by
  have hB : B p = Option.none := by
    cases q : B p with
    | none => rfl
    | some x => rcases S.bh p x q with r | ⟨_, _, r⟩ <;> (rw [h] at r; cases r)
  refine ⟨S.b0, fun a x q => ?_, fun q hq => ?_, S.nd, fun a x h1 h2 q => ?_, S.fresh, fun a q => ?_, fun a q => ?_, fun a x q hk => ?_, S.nt⟩
  · rw [upd_ne (ne_of_none q hB)]; exact S.bh a x q
  · obtain ⟨q1, q2, q3, q4⟩ := S.led q hq
    exact ⟨by rw [upd_ne (ne_of_none q1 h)]; exact q1, q2, q3, q4⟩
  · have r := S.keep a x h1 h2 q
    rw [upd_ne (ne_of_none r h)]; exact r
  · have r := S.there a q
    have ne : a ≠ p := fun z => by subst z; exact r h
    rw [upd_ne ne]; exact r
  · have r := S.zin a q
    rw [upd_ne (ne_of_none r h)]; exact r
  · rw [upd_ne (ne_of_none q hB)]; exact S.lk a x q hk
/-- the first of the ledger is changed -/
theorem Sy.w0 (S : Sy e B H ((a, o) :: L)) (o' : HO) (no : NT o' := by intro _ z; cases z) : Sy e B (upd H a o') ((a, o') :: L) := by
  obtain ⟨q1, q2, q3, q4⟩ := S.led (a, o) List.mem_cons_self
  have hnd := List.nodup_cons.mp (show (a :: L.map (·.1)).Nodup from S.nd)
  refine ⟨S.b0, fun b x q => ?_, fun q hq => ?_, S.nd, fun b x h1 h2 q => ?_, S.fresh, fun b q => ?_, fun b q => ?_, fun b x q hk => ?_, fun q hq => (List.mem_cons.mp hq).elim (fun z => by rw [z]; exact no) (fun z => S.nt q (List.mem_cons_of_mem _ z))⟩
  · rw [upd_ne (ne_of_none q q2)]; exact S.bh b x q
  · rcases List.mem_cons.mp hq with rfl | hq
    · exact ⟨upd_same, q2, q3, q4⟩
    · obtain ⟨r1, r2, r3, r4⟩ := S.led q (List.mem_cons_of_mem _ hq)
      have ne : q.1 ≠ a := fun z => hnd.1 (List.mem_map.mpr ⟨q, hq, z⟩)
      exact ⟨by rw [upd_ne ne]; exact r1, r2, r3, r4⟩
  · have r := S.keep b x h1 h2 q
    have ne : b ≠ a := fun z => by
      subst z
      rcases q3 with z | z
      · exact h1 z
      · rw [show (b, o).1 = b from rfl] at z; rw [q] at z; cases z
    rw [upd_ne ne]; exact r
  · by_cases hb : b = a
    · subst hb; rw [upd_same]; simp
    · rw [upd_ne hb]; exact S.there b q
  · have ne : b.1 ≠ a := fun z => q4 (List.mem_map.mpr ⟨b, q, z⟩)
    rw [upd_ne ne]; exact S.zin b q
  · rw [upd_ne (ne_of_none q q2)]; exact S.lk b x q hk
theorem Sy.w1 {q : Addr × HO} (S : Sy e B H (q :: (a, o) :: L)) (o' : HO) (no : NT o' := by intro _ z; cases z) : Sy e B (upd H a o') (q :: (a, o') :: L) := (S.swap.w0 o' no).swap
theorem Sy.rot {q1 q2 q3 : Addr × HO} (S : Sy e B H (q1 :: q2 :: q3 :: L)) : Sy e B H (q3 :: q1 :: q2 :: L) := S.perm ((List.Perm.swap _ _ _).cons _ |>.trans (List.Perm.swap _ _ _))
theorem Sy.unrot {q1 q2 q3 : Addr × HO} (S : Sy e B H (q3 :: q1 :: q2 :: L)) : Sy e B H (q1 :: q2 :: q3 :: L) := S.perm ((List.Perm.swap _ _ _).trans ((List.Perm.swap _ _ _).cons _))
theorem Sy.w2 {q1 q2 : Addr × HO} (S : Sy e B H (q1 :: q2 :: (a, o) :: L)) (o' : HO) (no : NT o' := by intro _ z; cases z) : Sy e B (upd H a o') (q1 :: q2 :: (a, o') :: L) := (S.rot.w0 o' no).unrot
theorem Sy.rot4 {q1 q2 q3 q4 : Addr × HO} (S : Sy e B H (q1 :: q2 :: q3 :: q4 :: L)) : Sy e B H (q4 :: q1 :: q2 :: q3 :: L) :=
  S.perm ((((List.Perm.swap _ _ _).cons _).cons _).trans (((List.Perm.swap _ _ _).cons _).trans (List.Perm.swap _ _ _)))
theorem Sy.unrot4 {q1 q2 q3 q4 : Addr × HO} (S : Sy e B H (q4 :: q1 :: q2 :: q3 :: L)) : Sy e B H (q1 :: q2 :: q3 :: q4 :: L) :=
  S.perm ((List.Perm.swap _ _ _).trans (((List.Perm.swap _ _ _).cons _).trans (((List.Perm.swap _ _ _).cons _).cons _)))
theorem Sy.w3 {q1 q2 q3 : Addr × HO} (S : Sy e B H (q1 :: q2 :: q3 :: (a, o) :: L)) (o' : HO) (no : NT o' := by intro _ z; cases z) : Sy e B (upd H a o') (q1 :: q2 :: q3 :: (a, o') :: L) := (S.rot4.w0 o' no).unrot4
theorem Sy.g0 (S : Sy e B H ((a, o) :: L)) : H a = some o := (S.led _ List.mem_cons_self).1
theorem Sy.g1 {q : Addr × HO} (S : Sy e B H (q :: (a, o) :: L)) : H a = some o := S.tail.g0
theorem Sy.g2 {q1 q2 : Addr × HO} (S : Sy e B H (q1 :: q2 :: (a, o) :: L)) : H a = some o := S.tail.tail.g0
theorem Sy.g3 {q1 q2 q3 : Addr × HO} (S : Sy e B H (q1 :: q2 :: q3 :: (a, o) :: L)) : H a = some o := S.tail.tail.tail.g0
/-- the first of the ledger is changed no more -/
theorem Sy.freeze (S : Sy e B H ((a, o) :: L)) (h : e.H a = Option.none) : Same B (upd B a o) ∧ Sy e (upd B a o) H L := by
  obtain ⟨q1, q2, q3, q4⟩ := S.led (a, o) List.mem_cons_self
  have hnd := List.nodup_cons.mp (show (a :: L.map (·.1)).Nodup from S.nd)
  have sb : Same B (upd B a o) := fun b x q => by rw [upd_ne (ne_of_none q q2)]; exact q
  refine ⟨sb, S.b0.trans sb, fun b x q => ?_, fun q hq => ?_, hnd.2, S.keep, fun b r1 r2 => ?_, S.there, S.zin, fun b x q hk => ?_, fun q hq => S.nt q (List.mem_cons_of_mem _ hq)⟩
  · by_cases hb : b = a
    · subst hb; rw [upd_same] at q; cases q; exact .inl q1
    · rw [upd_ne hb] at q; exact S.bh b x q
  · obtain ⟨r1, r2, r3, r4⟩ := S.led q (List.mem_cons_of_mem _ hq)
    have ne : q.1 ≠ a := fun z => hnd.1 (List.mem_map.mpr ⟨q, hq, z⟩)
    exact ⟨r1, by rw [upd_ne ne]; exact r2, r3, r4⟩
  · have ne : b ≠ a := fun z => by subst z; exact r1 h
    rw [upd_ne ne]; exact S.fresh b r1 r2
  · by_cases hb : b = a
    · subst hb; rw [upd_same] at q; cases q; exact .inl q1
    · rw [upd_ne hb] at q; exact S.lk b x q hk
theorem Sy.freeze1 {q : Addr × HO} (S : Sy e B H (q :: (a, o) :: L)) (h : e.H a = Option.none) : Same B (upd B a o) ∧ Sy e (upd B a o) H (q :: L) := S.swap.freeze h
theorem Sy.freeze2 {q1 q2 : Addr × HO} (S : Sy e B H (q1 :: q2 :: (a, o) :: L)) (h : e.H a = Option.none) : Same B (upd B a o) ∧ Sy e (upd B a o) H (q1 :: q2 :: L) := S.rot.freeze h

/-- what a callee is handed: the first n of the ledger -/
theorem Sy.hand (S : Sy e B H (L ++ R)) : Hand B H L :=
  ⟨S.bh, fun p hp => ⟨(S.led p (List.mem_append_left _ hp)).1, (S.led p (List.mem_append_left _ hp)).2.1⟩, by
    have h := S.nd
    rw [List.map_append] at h
    exact (List.nodup_append.mp h).1, fun p hp => S.nt p (List.mem_append_left _ hp)⟩
/-- behind a call -/
theorem Sy.back {L' : Led} (S : Sy e B H (L ++ R)) (T : Sy ⟨L.map (·.1), [], B, H⟩ B' H' L') (hl : L'.map (·.1) = L.map (·.1)) : Sy e B' H' (L' ++ R) := by
  have nd := S.nd
  rw [List.map_append] at nd
  have nR : ∀ p ∈ R, p.1 ∉ L.map (·.1) := fun p hp hm => (List.nodup_append.mp nd).2.2 _ hm _ (List.mem_map.mpr ⟨p, hp, rfl⟩) rfl
  have frR : ∀ p ∈ R, B' p.1 = Option.none := fun p hp => by
    obtain ⟨s1, s2, s3, s4⟩ := S.led p (List.mem_append_right _ hp)
    rcases T.fresh p.1 (by show H p.1 ≠ _; rw [s1]; simp) s2 with z | ⟨xs, z⟩
    · exact z
    · have h1 := T.keep p.1 p.2 (nR p hp) (by simp) s1
      have h2 := T.bh.tup z
      rw [h1] at h2
      exact absurd (Option.some.inj h2) (S.nt p (List.mem_append_right _ hp) xs)
  refine ⟨S.b0.trans T.b0, T.bh, fun p hp => ?_, ?_, fun a x h1 h2 q => ?_, fun a r1 r2 => ?_, fun a r => T.there a (S.there a r), fun p hp => ?_, fun a x q hk => ?_, fun p hp => (List.mem_append.mp hp).elim (T.nt p) (fun z => S.nt p (List.mem_append_right _ z))⟩
  · rcases List.mem_append.mp hp with hp | hp
    · obtain ⟨r1, r2, r3, r4⟩ := T.led p hp
      have hm : p.1 ∈ L.map (·.1) := by rw [← hl]; exact List.mem_map.mpr ⟨p, hp, rfl⟩
      obtain ⟨q, hq, eq⟩ := List.mem_map.mp hm
      obtain ⟨s1, s2, s3, s4⟩ := S.led q (List.mem_append_left _ hq)
      exact ⟨r1, r2, by rw [← eq]; exact s3, by rw [← eq]; exact s4⟩
    · obtain ⟨s1, s2, s3, s4⟩ := S.led p (List.mem_append_right _ hp)
      exact ⟨T.keep p.1 p.2 (nR p hp) (by simp) s1, frR p hp, s3, s4⟩
  · rw [List.map_append, hl]; exact nd
  · have r := S.keep a x h1 h2 q
    refine T.keep a x (fun hm => ?_) (by simp) r
    obtain ⟨p, hp, eq⟩ := List.mem_map.mp hm
    obtain ⟨s1, s2, s3, s4⟩ := S.led p (List.mem_append_left _ hp)
    rw [show p.1 = a from eq] at s3
    rcases s3 with z | z
    · exact h1 z
    · rw [q] at z; cases z
  · rcases S.fresh a r1 r2 with z | ⟨xs, z⟩
    · exact T.fresh a (S.there a r1) z
    · exact .inr ⟨xs, T.b0 a _ z⟩
  · refine T.keep p.1 _ (fun hm => ?_) (by simp) (S.zin p hp)
    obtain ⟨q, hq, eq⟩ := List.mem_map.mp hm
    exact (S.led q (List.mem_append_left _ hq)).2.2.2 (List.mem_map.mpr ⟨p, hp, eq.symm⟩)
  · rcases T.lk a x q hk with z | z | ⟨ob, u, z⟩
    · exact .inl z
    · exact absurd z (by simp)
    · have z : H a = some (.frz ob u) := z
      cases r : B a with
      | none =>
        rcases T.fresh a (by show H a ≠ _; rw [z]; simp) r with this | ⟨xs, this⟩
        · rw [q] at this; cases this
        · rw [q] at this; cases this; exact hk.elim
      | some y =>
        have e1 : B' a = some y := T.b0 a y r
        rw [q] at e1; cases e1
        rcases S.lk a x r hk with z2 | z2 | z2
        · rw [z] at z2; cases z2; exact hk.elim
        · exact .inr (.inl z2)
        · exact .inr (.inr z2)
/-- .. that laid new things that may be changed -/
theorem Sy.backN {L' N' : Led} (S : Sy e B H (L ++ R)) (T : Sy ⟨L.map (·.1), [], B, H⟩ B' H' (N' ++ L')) (hl : L'.map (·.1) = L.map (·.1)) (hn : ∀ p ∈ N', H p.1 = Option.none) : (∀ p ∈ N', e.H p.1 = Option.none) ∧ Sy e B' H' (N' ++ (L' ++ R)) := by
  have S1 := S.back (T.sub (List.sublist_append_right N' L')) hl
  have h0 : ∀ p ∈ N', e.H p.1 = Option.none := fun p hp => by
    cases q : e.H p.1 with
    | none => rfl
    | some x => exact absurd (hn p hp) (S.there p.1 (by rw [q]; simp))
  refine ⟨h0, S1.b0, S1.bh, fun p hp => ?_, ?_, S1.keep, S1.fresh, S1.there, S1.zin, S1.lk, fun p hp => (List.mem_append.mp hp).elim (fun z => T.nt p (List.mem_append_left _ z)) (S1.nt p)⟩
  · rcases List.mem_append.mp hp with hp | hp
    · obtain ⟨r1, r2, r3, r4⟩ := T.led p (List.mem_append_left _ hp)
      refine ⟨r1, r2, .inr (h0 p hp), fun z => ?_⟩
      obtain ⟨q, hq, e1⟩ := List.mem_map.mp z
      have := S.zin q hq
      rw [show q.1 = p.1 from e1, hn p hp] at this; cases this
    · exact S1.led p hp
  · have nd := T.nd
    rw [List.map_append] at nd ⊢
    refine List.nodup_append.mpr ⟨(List.nodup_append.mp nd).1, S1.nd, fun a ha b hb hab => ?_⟩
    subst hab
    obtain ⟨p, hp, ep⟩ := List.mem_map.mp ha
    obtain ⟨r, hr, er⟩ := List.mem_map.mp hb
    rcases List.mem_append.mp hr with hr | hr
    · exact (List.nodup_append.mp nd).2.2 _ ha _ (List.mem_map.mpr ⟨r, hr, er⟩) rfl
    · have q1 := hn p hp
      have q2 := (S.led r (List.mem_append_right _ hr)).1
      rw [show p.1 = a from ep] at q1
      rw [show r.1 = a from er, q1] at q2
      cases q2
theorem Sy.backN0 (S : Sy e B H L) (T : Sy ⟨[], [], B, H⟩ B' H' [(a, o)]) : e.H a = Option.none ∧ Sy e B' H' ((a, o) :: L) := by
  have hn : H a = Option.none := by
    obtain ⟨_, _, r3, _⟩ := T.led (a, o) List.mem_cons_self
    rcases r3 with z | z
    · cases z
    · exact z
  obtain ⟨h1, h2⟩ := Sy.backN (L := []) (L' := []) (N' := [(a, o)]) S T rfl (fun p hp => by
    rcases List.mem_cons.mp hp with rfl | hp
    · exact hn
    · cases hp)
  exact ⟨h1 _ List.mem_cons_self, h2⟩
theorem Sy.back0 (S : Sy e B H L) (T : Sy ⟨[], [], B, H⟩ B' H' []) : Sy e B' H' L := Sy.back (L := []) (L' := []) S T rfl
theorem Sy.back1 (S : Sy e B H ((a, o) :: L)) (T : Sy ⟨[a], [], B, H⟩ B' H' [(a, o')]) : Sy e B' H' ((a, o') :: L) := Sy.back (L := [(a, o)]) (L' := [(a, o')]) S T rfl
theorem Sy.hand0 (S : Sy e B H L) : Hand B H [] := Sy.hand (L := []) (R := L) S
theorem Sy.hand1 (S : Sy e B H ((a, o) :: L)) : Hand B H [(a, o)] := Sy.hand (L := [(a, o)]) (R := L) S
end

/-! ### locks -/
section
variable {e : En} {B B' H H' : Hp} {L L' : Led} {d : Addr} {u : HO} {od : Obj}
theorem dk_frz {o : Obj} {u : HO} : ¬ Dk (.frz o u) := fun h => h
/-- a dict of the base is locked -/
theorem Sy.lock (S : Sy e B H L) (hB : B d = some u) (hk : Dk u) (hH : H d = some u) : Sy { e with Z := (d, od, u) :: e.Z } B (upd H d (.frz od u)) L := by
  refine ⟨S.b0, fun a o q => ?_, fun p hp => ?_, S.nd, fun a o h1 h2 q => ?_, S.fresh, fun a q => ?_, fun p hp => ?_, fun a o q hk2 => ?_, S.nt⟩
  · by_cases ha : a = d
    · subst ha
      rw [hB] at q; cases q
      exact .inr ⟨hk, od, upd_same⟩
    · rw [upd_ne ha]; exact S.bh a o q
  · obtain ⟨q1, q2, q3, q4⟩ := S.led p hp
    have ne : p.1 ≠ d := fun z => by rw [z, hB] at q2; cases q2
    refine ⟨by rw [upd_ne ne]; exact q1, q2, q3, fun z => ?_⟩
    rcases List.mem_cons.mp z with z | z
    · exact ne z
    · exact q4 z
  · have h2 : a ≠ d ∧ a ∉ e.Z.map (·.1) := ⟨fun z => h2 (by rw [z]; exact List.mem_cons_self), fun z => h2 (List.mem_cons_of_mem _ z)⟩
    rw [upd_ne h2.1]; exact S.keep a o h1 h2.2 q
  · by_cases ha : a = d
    · subst ha; rw [upd_same]; simp
    · rw [upd_ne ha]; exact S.there a q
  · rcases List.mem_cons.mp hp with rfl | hp
    · exact upd_same
    · have r := S.zin p hp
      have ne : p.1 ≠ d := fun z => by
        rw [z, hH] at r
        cases r
        exact hk
      rw [upd_ne ne]; exact r
  · by_cases ha : a = d
    · exact .inr (.inl (by rw [ha]; exact List.mem_cons_self))
    · rw [upd_ne ha]
      rcases S.lk a o q hk2 with z | z | z
      · exact .inl z
      · exact .inr (.inl (List.mem_cons_of_mem _ z))
      · exact .inr (.inr z)
/-- .. and let go of -/
theorem Sy.unlock (S : Sy e B H L) (hB : B d = some u) (hk : Dk u) (hH : H d = some u) (b : Same B B') (T : Sy { e with Z := (d, od, u) :: e.Z } B' H' L') : H' d = some (.frz od u) ∧ Sy e B' (upd H' d u) L' := by
  have hd : H' d = some (.frz od u) := T.zin (d, od, u) List.mem_cons_self
  refine ⟨hd, T.b0, fun a o q => ?_, fun p hp => ?_, T.nd, fun a o h1 h2 q => ?_, T.fresh, fun a q => ?_, fun p hp => ?_, fun a o q hk2 => ?_, T.nt⟩
  · by_cases ha : a = d
    · subst ha
      rw [b a u hB] at q; cases q
      exact .inl upd_same
    · rw [upd_ne ha]; exact T.bh a o q
  · obtain ⟨q1, q2, q3, q4⟩ := T.led p hp
    have ne : p.1 ≠ d := fun z => q4 (by rw [z]; exact List.mem_cons_self)
    exact ⟨by rw [upd_ne ne]; exact q1, q2, q3, fun z => q4 (List.mem_cons_of_mem _ z)⟩
  · by_cases ha : a = d
    · subst ha
      have r := S.keep a o h1 h2 q
      rw [hH] at r; cases r
      exact upd_same
    · rw [upd_ne ha]
      refine T.keep a o h1 (fun z => ?_) q
      rcases List.mem_cons.mp z with z | z
      · exact ha z
      · exact h2 z
  · by_cases ha : a = d
    · subst ha; rw [upd_same]; simp
    · rw [upd_ne ha]; exact T.there a q
  · have r := S.zin p hp
    have ne : p.1 ≠ d := fun z => by
      rw [z, hH] at r
      cases r
      exact hk
    rw [upd_ne ne]; exact T.zin p (List.mem_cons_of_mem _ hp)
  · by_cases ha : a = d
    · subst ha
      rw [b a u hB] at q; cases q
      exact .inl upd_same
    · rw [upd_ne ha]
      rcases T.lk a o q hk2 with z | z | z
      · exact .inl z
      · rcases List.mem_cons.mp z with z | z
        · exact absurd z ha
        · exact .inr (.inl z)
      · exact .inr (.inr z)
/-- a dict that was laid since stands as it is -/
theorem Sy.dk (S : Sy e B H L) (hB : B d = some u) (hk : Dk u) (hn : e.H d = Option.none) (hz : e.Z = []) : H d = some u := by
  rcases S.lk d u hB hk with z | z | ⟨_, _, z⟩
  · exact z
  · rw [hz] at z; cases z
  · rw [hn] at z; cases z
end
section
variable {e : En} {B B' H H' : Hp} {L L' : Led} {d : Addr} {o : HO} {M : List Addr}
/-- what is laid since the entry is not in the entry's base -/
theorem Sy.bnone (S : Sy e B H L) (he : e.H = H) (hd : e.H d = Option.none) : B d = Option.none := by
  cases q : B d with
  | none => rfl
  | some x =>
    rw [he] at hd
    rcases S.bh d x q with z | ⟨_, _, z⟩ <;> (rw [hd] at z; cases z)
/-- what a callee has laid is laid since the caller's entry -/
theorem Sy.newOf (S : Sy e B H L) (T : Sy ⟨M, [], B, H⟩ B' H' L') (h0 : B d = Option.none) (h1 : B' d = some o) (no : NT o := by intro _ z; cases z) : e.H d = Option.none := by
  cases q : e.H d with
  | none => rfl
  | some x =>
    have h2 : H d ≠ Option.none := S.there d (by rw [q]; simp)
    rcases T.fresh d h2 h0 with h3 | ⟨xs, h3⟩
    · rw [h1] at h3; cases h3
    · rw [h1] at h3; exact absurd (Option.some.inj h3) (no xs)
end
/-- a tuple that stands is taken into the base -/
theorem Sy.adopt {e : En} {B H : Hp} {L : Led} {p : Addr} {xs : List V} (S : Sy e B H L) (h : H p = some (.tup xs)) : ∃ B', Same B B' ∧ B' p = some (.tup xs) ∧ Sy e B' H L := by
  cases q : B p with
  | some o =>
    have : o = .tup xs := by
      rcases S.bh p o q with z | ⟨_, ob, z⟩
      · rw [h] at z; exact (Option.some.inj z).symm
      · rw [h] at z; cases z
    subst this
    exact ⟨B, Same.refl _, q, S⟩
  | none =>
    have sb : Same B (upd B p (.tup xs)) := fun a x z => by rw [upd_ne (ne_of_none z q)]; exact z
    refine ⟨_, sb, upd_same, S.b0.trans sb, fun a x z => ?_, fun r hr => ?_, S.nd, S.keep, fun a r1 r2 => ?_, S.there, S.zin, fun a x z hk => ?_, S.nt⟩
    · by_cases ha : a = p
      · subst ha; rw [upd_same] at z; cases z; exact .inl h
      · rw [upd_ne ha] at z; exact S.bh a x z
    · obtain ⟨q1, q2, q3, q4⟩ := S.led r hr
      have ne : r.1 ≠ p := fun z => by
        rw [z, h] at q1
        exact S.nt r hr xs (Option.some.inj q1).symm
      exact ⟨q1, by rw [upd_ne ne]; exact q2, q3, q4⟩
    · by_cases ha : a = p
      · subst ha; exact .inr ⟨xs, upd_same⟩
      · rw [upd_ne ha]; exact S.fresh a r1 r2
    · by_cases ha : a = p
      · subst ha; rw [upd_same] at z; cases z; exact hk.elim
      · rw [upd_ne ha] at z; exact S.lk a x z hk
/-- a promise in these words: the base, the arguments, what may be changed, and what is wanted of the base, the answer and the changed behind it -/
abbrev Ph := Hp → List V → Led → (Hp → V → Led → Prop) → Prop
def spY (φ : Ph) : Sp := fun vs H Q _ => ∃ B L, Hand B H L ∧ φ B vs L fun B' v L' => ∀ H', Sy ⟨L.map (·.1), [], B, H⟩ B' H' L' → Q v H'
end Y
/-! == and != of things that are alike and hold dicts: lists, tuples, dicts in one another. -/
namespace Y
open PySem PySem.Spec PyProof.Rows L2
/-- alike: lists or dicts or tuples of things that are alike by E -/
def AlR (K : PySem.W.Frag) (H : Hp) (E : V → V → Prop) (x y : V) : Prop :=
  EqR K H E x y ∨ ∃ a b xs ys, x = .ref a ∧ y = .ref b ∧ SqT K H a xs ∧ SqT K H b ys ∧ Paired E xs ys
/-- alike, of a nesting below n -/
def Al (K : PySem.W.Frag) (H : Hp) : Nat → V → V → Prop
  | 0 => fun _ _ => False
  | n + 1 => fun x y => (x = y ∧ flatB x = true) ∨ (∃ a, x = .ref a ∧ y = .ref a) ∨ AlR K H (Al K H n) x y
section
open PySem.SeqAt
open AutoSeq1 (wpAny_loadPart')
variable {prog : Program} {w : World}
/-- two tuples of as many things, alike one by one, are not unlike -/
theorem tup_not_ne {l b : Addr} {us ws : Array Value} {n1 n2 : Nat} {d1 d2 : Option Addr} {s1 s2 : Array (Option Value)} (hz : us.size = ws.size) :
    MeetsIn prog w (Builtin.«tuple.__ne__» ⟨[.ref l, .ref b], []⟩) fun A R s =>
      s.heap.get? l = some ⟨.type "tuple", d1, .seq us n1, s1⟩ ∧ s.heap.get? b = some ⟨.type "tuple", d2, .seq ws n2, s2⟩ ∧
        (∀ j (p : j < us.size) (q : j < ws.size), EqP prog w A.in1 s us[j] ws[j] true) ∧ R (.ok (.ret (.bool false))) s := by
  refine .of_wp fun A R s hyp => ?_
  obtain ⟨hp, g, d, tk, os⟩ := s
  obtain ⟨h1, h2, h3, h4⟩ := hyp
  have sub := AutoSeq1.sub_tuple_tuple
  wp_walk using wpAny_loadPart' h1, wpAny_loadPart' h2, wpAny_forIn_list _ (fun todo acc now => acc.1 = none ∧ now = ⟨hp, g, d, tk, os⟩ ∧ ∃ k, todo = (us.toList.zip ws.toList).drop k) _
  case turn =>
    rintro ⟨p, q⟩ todo acc now ⟨e1, e2, k, e3⟩
    subst e2
    have hk : k < (us.toList.zip ws.toList).length := Nat.lt_of_not_le fun z => by
      rw [List.drop_of_length_le z] at e3
      cases e3
    have hk1 : k < us.size := by simp at hk; omega
    have hk2 : k < ws.size := by omega
    rw [List.drop_eq_getElem_cons hk] at e3
    injection e3 with e4 e5
    have e6 : p = us[k] := by simpa using congrArg Prod.fst e4
    have e7 : q = ws[k] := by simpa using congrArg Prod.snd e4
    rw [e6, e7]
    refine wpAny_bind (h3 k hk1 hk2 _ _ ?_)
    wp_walk
    exact ⟨rfl, rfl, k + 1, e5⟩
  case fin =>
    rintro ⟨c1, c2⟩ now ⟨e1, e2, k, e3⟩
    have e1 : c1 = none := e1
    subst e1 e2
    wp_walk
    refine ⟨_, rfl, ?_⟩
    simpa [Builtin.Tuple.tupleCompareSizes, bne, hz] using h4
  case h => exact ⟨rfl, rfl, 0, rfl⟩
end
section
variable {X : Cx} {pins : List (Addr × Obj)} {σ : L2.St} {H : Hp} {s : Shared}
theorem alR_run (I : Inv X pins σ H s) {A : Around} {F : V → V → Prop} (hu : A.units < cLine) (ih : ∀ x y v u, F x y → RelV x v → RelV y u → SeqAt.EqP X.prog X.w A.in1 s v u true) {x y : V} {v u : Value} (h : AlR X.K H F x y) (rx : RelV x v) (ry : RelV y u)
    (E Q : Value → Shared → Prop) (q : Q (.bool true) s) : wpAny (model X.prog X.w) A (richCompare .Eq v u) Q E s := by
  rcases h with h | ⟨a, b, xs, ys, rfl, rfl, ha, hb, hp⟩
  · exact eqR_run I hu ih h rx ry E Q q
  · cases (show v = Value.ref a from rx)
    cases (show u = Value.ref b from ry)
    obtain ⟨us, r1, p1, _⟩ := I.tuple ha
    obtain ⟨ws, r2, p2, _⟩ := I.tuple hb
    have hl : us.length = ws.length := by rw [← r1.length, ← r2.length]; exact Paired.length hp
    refine SeqAt.rcIn_tuples (e := fun _ => true) p1 p2 hu (fun j h1 h2 => ?_) ?_
    · have k := items_run ih hp r1 r2 j (by simpa using h1) (by simpa using h2)
      have k' : SeqAt.EqP X.prog X.w A.in1 s us.toArray[j] ws.toArray[j] true := by simpa using k
      exact k'
    · have e : ((List.range (min us.toArray.size ws.toArray.size)).all (fun _ => true) && us.toArray.size == ws.toArray.size) = true := by simp [hl]
      rw [e]
      exact q
theorem al_run (I : Inv X pins σ H s) : ∀ (n : Nat) (A : Around), A.units + n < cLine → ∀ (x y : V) (v u : Value), Al X.K H n x y → RelV x v → RelV y u → SeqAt.EqP X.prog X.w A s v u true
  | 0, _, _, _, _, _, _, h, _, _ => (show False from h).elim
  | n + 1, A, hu, x, y, v, u, h, rx, ry => by
    rcases h with ⟨rfl, f⟩ | ⟨a, rfl, rfl⟩ | h
    · exact (eqAt_same rx ry f).eqP
    · cases (show v = Value.ref a from rx)
      cases (show u = Value.ref a from ry)
      exact (SeqAt.EqAt.same _).eqP
    · have go := alR_run I (A := A) (by omega) (al_run I n A.in1 (by show A.units + 1 + n < cLine; omega)) h rx ry
      have two : ∃ a b, x = .ref a ∧ y = .ref b := by
        rcases h with (⟨a, b, _, _, e1, e2, _⟩ | ⟨a, b, _, _, e1, e2, _⟩) | ⟨a, b, _, _, e1, e2, _⟩ <;> exact ⟨a, b, e1, e2⟩
      obtain ⟨a, b, rfl, rfl⟩ := two
      cases (show v = Value.ref a from rx)
      cases (show u = Value.ref b from ry)
      by_cases e : a = b
      · subst e
        exact (SeqAt.EqAt.same _).eqP
      · exact SeqAt.eqP_refs e go
end
section
variable {X : Cx}
def rEqA (K : PySem.W.Frag) : R2 := fun x y H Q => ∃ n, n ≤ 60 ∧ AlR K H (Al K H n) x y ∧ Q (.bl true) H
theorem op_eqA (hu : X.A.units + 64 < cLine) : OpR X (compareOp .Eq) (rEqA X.K) := by
  intro pins s σ H x y v u Q I rx ry h
  obtain ⟨n, hn, h, q⟩ := h
  exact alR_run I (A := X.A) (by omega) (al_run I n X.A.in1 (by show X.A.units + 1 + n < cLine; omega)) h rx ry _ _ ⟨.bl true, H, I, rfl, q⟩
/-- != of two tuples that are alike; of two dicts -/
def rNeA (K : PySem.W.Frag) : R2 := fun x y H Q => ∃ n a b xs ys, n ≤ 60 ∧ x = .ref a ∧ y = .ref b ∧ SqT K H a xs ∧ SqT K H b ys ∧ Paired (Al K H n) xs ys ∧ Q (.bl false) H
theorem op_neA (hu : X.A.units + 64 < cLine) : OpR X (compareOp .NotEq) (rNeA X.K) := by
  intro pins s σ H x y v u Q I rx ry h
  obtain ⟨n, a, b, xs, ys, hn, rfl, rfl, ha, hb, hp, q⟩ := h
  cases (show v = Value.ref a from rx)
  cases (show u = Value.ref b from ry)
  obtain ⟨us, r1, p1, _⟩ := I.tuple ha
  obtain ⟨ws, r2, p2, _⟩ := I.tuple hb
  have hl : us.length = ws.length := by rw [← r1.length, ← r2.length]; exact Paired.length hp
  have hit : ∀ j (p : j < us.toArray.size) (q : j < ws.toArray.size), SeqAt.EqP X.prog X.w X.A.in1 s us.toArray[j] ws.toArray[j] true := fun j p q => by
    have k := items_run (al_run I n X.A.in1 (by show X.A.units + 1 + n < cLine; omega)) hp r1 r2 j (by simpa using p) (by simpa using q)
    simpa using k
  obtain ⟨⟨c1, d1, dt1, s1⟩, g1, k1, m1, t1⟩ := p1
  obtain ⟨⟨c2, d2, dt2, s2⟩, g2, k2, m2, t2⟩ := p2
  have k1 : c1 = .type "tuple" := k1
  have k2 : c2 = .type "tuple" := k2
  have t1 : dt1 = .seq us.toArray m1 := t1
  have t2 : dt2 = .seq ws.toArray m2 := t2
  subst k1 k2 t1 t2
  refine wpAny_richCompare_same_room (T := "tuple") (op := .NotEq) ⟨_, g1, rfl⟩ ⟨_, g2, rfl⟩ F.slot_tuple_ne (call_meetsIn F.slot_tuple_ne ⟨_, g1, rfl⟩ F.entry_tuple_ne (F.args_tuple_ne_2 _ _) (tup_not_ne (by simp [hl])) ⟨g1, g2, hit, ?_⟩) (by omega)
  exact (show Value.bool false ≠ Value.notImplemented ∧ EP X pins σ Q (.bool false) s from ⟨fun z => (nomatch z), V.bl false, H, I, rfl, q⟩)
/-! ### a list against the empty list -/
def rEqE (K : PySem.W.Frag) : R2 := fun x y H Q => ∃ a b xs, x = .ref a ∧ y = .ref b ∧ SqL K H a xs ∧ SqL K H b [] ∧ Q (.bl xs.isEmpty) H
def rNeE (K : PySem.W.Frag) : R2 := fun x y H Q => ∃ a b xs, x = .ref a ∧ y = .ref b ∧ SqL K H a xs ∧ SqL K H b [] ∧ Q (.bl (!xs.isEmpty)) H
theorem op_eqE (hu : X.A.units + 64 < cLine) : OpR X (compareOp .Eq) (rEqE X.K) := by
  intro pins s σ H x y v u Q I rx ry h
  obtain ⟨a, b, xs, rfl, rfl, ha, hb, q⟩ := h
  cases (show v = Value.ref a from rx)
  cases (show u = Value.ref b from ry)
  obtain ⟨us, r1, p1, _⟩ := I.list ha
  obtain ⟨ws, r2, p2, _⟩ := I.list hb
  cases r2
  cases r1 with
  | nil => exact SeqAt.RcAt.lists (e := fun _ => true) p1.isList p2.isList rfl (by omega) (fun j h1 _ => absurd h1 (by simp)) X.prog X.w _ _ ⟨V.bl true, H, I, rfl, q⟩
  | cons _ _ => exact SeqAt.RcAt.lists_lengths p1.isList p2.isList (by simp) (by omega) X.prog X.w _ _ ⟨V.bl false, H, I, rfl, q⟩
theorem op_neE (hu : X.A.units + 64 < cLine) : OpR X (compareOp .NotEq) (rNeE X.K) := by
  intro pins s σ H x y v u Q I rx ry h
  obtain ⟨a, b, xs, rfl, rfl, ha, hb, q⟩ := h
  cases (show v = Value.ref a from rx)
  cases (show u = Value.ref b from ry)
  obtain ⟨us, r1, p1, _⟩ := I.list ha
  obtain ⟨ws, r2, p2, _⟩ := I.list hb
  cases r2
  cases r1 with
  | nil => exact SeqAt.RcNeAt.lists (e := fun _ => true) p1.isList p2.isList rfl (by omega) (fun j h1 _ => absurd h1 (by simp)) X.prog X.w _ _ ⟨V.bl false, H, I, rfl, q⟩
  | cons _ _ => exact SeqAt.RcNeAt.lists_lengths p1.isList p2.isList (by simp) (by omega) X.prog X.w _ _ ⟨V.bl true, H, I, rfl, q⟩
end
end Y
/-! One rule for each operator, whatever the kinds; the walk picks by the values. -/
namespace Y
open PySem PySem.Spec PyProof.Rows L2
section
variable {X : Cx}

/-! ### great powers -/
def CPowW (i j : Int) : Prop := 0 ≤ j ∧ j ≤ 100 ∧ i.natAbs.log2 < 100000
theorem pow_ok {i j : Int} {b : Nat} (ha : i.natAbs < 2 ^ b) (h0 : 0 < b) (hb : b ≤ 100000) (h1 : 0 ≤ j) (h2 : j ≤ 100) : CPowW i j := ⟨h1, h2, Nat.lt_of_lt_of_le (PySem.Flt.log2_lt_of h0 ha) hb⟩
theorem op_powW : OpR X (binaryOp .Pow) (rI CPowW fun i j => .int (i ^ j.toNat)) := opI fun i j _ _ _ _ _ hc q => by
  refine pow_int hc.1 ?_ q
  have hb : Builtin.Int.intBits i ≤ i.natAbs.log2 + 1 := by unfold Builtin.Int.intBits; split <;> omega
  have hl : i.natAbs.log2 < 100000 := hc.2.2
  have h2 : (Builtin.Int.intBits i : Int) ≤ 100000 := by omega
  have h3 : (Builtin.Int.intBits i : Int) * j ≤ 100000 * 100 := Int.mul_le_mul h2 hc.2.1 hc.1 (by decide)
  omega

/-! ### + -/
def rAddI : R2 := fun x y H Q => ∃ i j, x = .int i ∧ y = .int j ∧ Q (.int (i + j)) H
def rAddS : R2 := fun x y H Q => ∃ i j, x = .str i ∧ y = .str j ∧ i.length + j.length ≤ sizeLine ∧ Q (.str (i ++ j)) H
def rAddU (K : PySem.W.Frag) : R2 := fun x y H Q => rAddI x y H Q ∨ (rAddS x y H Q ∨ (rCat x y H Q ∨ rCatT K x y H Q))
theorem op_addU {K : PySem.W.Frag} (hK : X.K = K) : OpR X (binaryOp .Add) (rAddU K) := hK ▸ OpR.or (r := rAddI) op_add (OpR.or (r := rAddS) op_add_str (OpR.or op_cat op_catT))
def rSubI : R2 := fun x y H Q => ∃ i j, x = .int i ∧ y = .int j ∧ Q (.int (i - j)) H
theorem op_subU : OpR X (binaryOp .Sub) rSubI := op_sub
def rMulI : R2 := fun x y H Q => ∃ i j, x = .int i ∧ y = .int j ∧ CMul i j ∧ Q (.int (i * j)) H
theorem op_mulU : OpR X (binaryOp .Mult) rMulI := op_mul
def rDivI : R2 := fun x y H Q => ∃ i j, x = .int i ∧ y = .int j ∧ CDivW i j ∧ Q (.int (i / j)) H
theorem op_divU : OpR X (binaryOp .FloorDiv) rDivI := op_fdivW
def rModI : R2 := fun x y H Q => ∃ i j, x = .int i ∧ y = .int j ∧ 0 < j ∧ Q (.int (i % j)) H
theorem op_modU : OpR X (binaryOp .Mod) rModI := op_mod
def rPowI : R2 := fun x y H Q => ∃ i j, x = .int i ∧ y = .int j ∧ CPowW i j ∧ Q (.int (i ^ j.toNat)) H
theorem op_powU : OpR X (binaryOp .Pow) rPowI := op_powW
def rNegI : V → Hp → VK → Prop := fun x H Q => ∃ i, x = .int i ∧ Q (.int (-i)) H
theorem un_negU : UnR X (unaryOp .USub) rNegI := un_neg

/-! ### comparisons -/
def rLtI : R2 := fun x y H Q => ∃ i j, x = .int i ∧ y = .int j ∧ Q (.bl (decide (i < j))) H
def rLtS : R2 := fun x y H Q => ∃ i j, x = .str i ∧ y = .str j ∧ Q (.bl (decide (i.cps.toList < j.cps.toList))) H
def rLtU : R2 := fun x y H Q => rLtI x y H Q ∨ rLtS x y H Q
theorem op_ltU : OpR X (compareOp .Lt) rLtU := OpR.or (r := rLtI) op_lt op_lt_str
def rLeI : R2 := fun x y H Q => ∃ i j, x = .int i ∧ y = .int j ∧ Q (.bl (decide (i ≤ j))) H
def rLeS : R2 := fun x y H Q => ∃ i j, x = .str i ∧ y = .str j ∧ Q (.bl (!decide (j.cps.toList < i.cps.toList))) H
def rLeU : R2 := fun x y H Q => rLeI x y H Q ∨ rLeS x y H Q
theorem op_leU : OpR X (compareOp .LtE) rLeU := OpR.or (r := rLeI) op_le op_le_str
def rGtI : R2 := fun x y H Q => ∃ i j, x = .int i ∧ y = .int j ∧ Q (.bl (decide (j < i))) H
theorem op_gtU : OpR X (compareOp .Gt) rGtI := op_gt
def rGeI : R2 := fun x y H Q => ∃ i j, x = .int i ∧ y = .int j ∧ Q (.bl (decide (j ≤ i))) H
theorem op_geU : OpR X (compareOp .GtE) rGeI := op_ge
def rEqU (K : PySem.W.Frag) : R2 := fun x y H Q => rEq x y H Q ∨ (rEqD K x y H Q ∨ (rEqA K x y H Q ∨ rEqE K x y H Q))
theorem op_eqU {K : PySem.W.Frag} (hK : X.K = K) (hu : X.A.units + 64 < cLine) : OpR X (compareOp .Eq) (rEqU K) := hK ▸ OpR.or op_eq (OpR.or (op_eqD hu) (OpR.or (op_eqA hu) (op_eqE hu)))
def rNeU (K : PySem.W.Frag) : R2 := fun x y H Q => rNe x y H Q ∨ (rNeD K x y H Q ∨ (rNeA K x y H Q ∨ rNeE K x y H Q))
theorem op_neU {K : PySem.W.Frag} (hK : X.K = K) (hu : X.A.units + 64 < cLine) : OpR X (compareOp .NotEq) (rNeU K) := hK ▸ OpR.or op_ne (OpR.or (op_neD hu) (OpR.or (op_neA hu) (op_neE hu)))
def rIsNU : R2 := fun x y H Q => y = .non ∧ Q (.bl (decide (x = .non))) H
theorem op_isU : OpR X (compareOp .Is) rIsNU := op_isN
def rNotNU : R2 := fun x y H Q => y = .non ∧ Q (.bl (!decide (x = .non))) H
theorem op_isnotU : OpR X (compareOp .IsNot) rNotNU := op_notN

/-! ### in -/
def rInDk : R2 := fun x y H Q => ∃ a o, y = .ref a ∧ DGet H a x o ∧ Q (.bl o.isSome) H
theorem op_inD (hu : X.A.units + 1 < cLine) : OpR X (compareOp .In) rInDk := by
  intro pins s σ H x y v u Q I rx ry h
  obtain ⟨a, o, rfl, g, q⟩ := h
  obtain rfl : u = Value.ref a := ry
  exact d_in hu I g rx fun s3 I3 => ⟨.bl o.isSome, H, I3, rfl, q⟩
def rNotInDk : R2 := fun x y H Q => ∃ a o, y = .ref a ∧ DGet H a x o ∧ Q (.bl (!o.isSome)) H
theorem op_notInD (hu : X.A.units + 1 < cLine) : OpR X (compareOp .NotIn) rNotInDk := by
  intro pins s σ H x y v u Q I rx ry h
  obtain ⟨a, o, rfl, g, q⟩ := h
  obtain rfl : u = Value.ref a := ry
  exact d_notIn hu I g rx fun s3 I3 => ⟨.bl (!o.isSome), H, I3, rfl, q⟩
def rInSg : R2 := fun x y H Q => ∃ (c : Nat) (z : Str), x = .str ⟨#[c]⟩ ∧ y = .str z ∧ Q (.bl (decide (c ∈ z.cps.toList))) H
def rNotInSg : R2 := fun x y H Q => ∃ (c : Nat) (z : Str), x = .str ⟨#[c]⟩ ∧ y = .str z ∧ Q (.bl (!decide (c ∈ z.cps.toList))) H
def rInU (K : PySem.W.Frag) : R2 := fun x y H Q => rIn K false x y H Q ∨ (rInSg x y H Q ∨ rInDk x y H Q)
theorem op_inU {K : PySem.W.Frag} (hK : X.K = K) (hu : X.A.units + 1 < cLine) : OpR X (compareOp .In) (rInU K) := hK ▸ OpR.or op_in_seq (OpR.or (r := rInSg) op_in_sign (op_inD hu))
def rNotInU (K : PySem.W.Frag) : R2 := fun x y H Q => rIn K true x y H Q ∨ (rNotInSg x y H Q ∨ rNotInDk x y H Q)
theorem op_notInU {K : PySem.W.Frag} (hK : X.K = K) (hu : X.A.units + 1 < cLine) : OpR X (compareOp .NotIn) (rNotInU K) := hK ▸ OpR.or op_notIn_seq (OpR.or (r := rNotInSg) op_notIn_sign (op_notInD hu))

/-! ### subscripts -/
def rIxD : R2 := fun x y H Q => ∃ a v, x = .ref a ∧ DGet H a y (some v) ∧ Q v H
theorem ix_dict (hu : X.A.units + 1 < cLine) : IxR X rIxD := by
  intro value slice pins s σ H x y v u Q I rx ry h hs
  obtain ⟨a, w, rfl, g, q⟩ := h
  obtain rfl : v = Value.ref a := rx
  exact tail_any (dict_typeIs I g) PySem.F.slot_dict_getitem.lookup (d_getItem hu I g ry fun w' s3 I3 rw' => ⟨w, H, I3, rw', q⟩) hs
def rIxU (K : PySem.W.Frag) : R2 := fun x y H Q => rIx K x y H Q ∨ rIxD x y H Q
theorem ix_U {K : PySem.W.Frag} (hK : X.K = K) (hu : X.A.units + 1 < cLine) : IxR X (rIxU K) := hK ▸ IxR.or ix_seq (ix_dict hu)
def rSetD : V → V → V → Hp → (Hp → Prop) → Prop := fun o i v H Q => ∃ a H', o = .ref a ∧ DPut H a i v H' ∧ Q H'
theorem set_dict (hu : X.A.units + 1 < cLine) : PSet X rSetD := by
  intro pins s σ H o i v ov iv u Q I ro ri rv h
  obtain ⟨a, H', rfl, g, q⟩ := h
  obtain rfl : ov = Value.ref a := ro
  exact d_setItem hu I g ri rv fun s4 I4 => ⟨H', I4, q⟩
def rSetU : V → V → V → Hp → (Hp → Prop) → Prop := fun o i v H Q => rSetL o i v H Q ∨ rSetD o i v H Q
theorem set_U (hu : X.A.units + 1 < cLine) : PSet X rSetU := by
  intro pins s σ H o i v ov iv u Q I ro ri rv h
  rcases h with h | h
  · exact set_list pins s σ H o i v ov iv u Q I ro ri rv h
  · exact set_dict hu pins s σ H o i v ov iv u Q I ro ri rv h
def rSlU (K : PySem.W.Frag) : V → Option Int → Option Int → Hp → VK → Prop := fun x lo hi H Q => rSlL K x lo hi H Q ∨ (∃ z, x = .str z ∧ z.length ≤ sizeLine ∧ Q (.str (cutS z lo hi)) H)
theorem sl_U {K : PySem.W.Frag} (hK : X.K = K) : SlR X (rSlU K) := hK ▸ SlR.or sl_list sl_str
/-! ### the layer's rules with K told -/
theorem pi_listK {K : PySem.W.Frag} {tg l : Expr} {tl : TE} (hK : X.K = K) (hl : PE X l tl) : PI X tg l (iList K tl) := hK ▸ pi_list hl
theorem pi_tupK {K : PySem.W.Frag} {tg l : Expr} {tl : TE} (hK : X.K = K) (hl : PE X l tl) : PI X tg l (iTup K tl) := hK ▸ pi_tup hl
theorem pi_zipK {K : PySem.W.Frag} {e e2 : Expr} {ta : TA} {p pos tpos : Pos} {elts : List Expr} {kk : Nat} (hK : X.K = K) (hg : Gl X "zip") (hm : X.mg "zip" = none) (ha : PA X [e, e2] ta)
    (hs : starEach [e, e2] X.env = (false, eval e X.env) :: starEach [e2] X.env := by rfl) (hpl : (backTo pos (starEach [e2] X.env)).any (·.1) = false := by rfl) :
    PI X (.Tuple elts kk tpos) (.Call (.Name "zip" p) [e, e2] [] pos) (iZip K ta) := hK ▸ pi_zip hg hm ha hs hpl
theorem pi_enumK {K : PySem.W.Frag} {e : Expr} {ta : TA} {p pos tpos : Pos} {elts : List Expr} {kk : Nat} (hK : X.K = K) (hg : Gl X "enumerate") (hm : X.mg "enumerate" = none) (ha : PA X [e] ta) (hs : starEach [e] X.env = [(false, eval e X.env)] := by rfl) :
    PI X (.Tuple elts kk tpos) (.Call (.Name "enumerate" p) [e] [] pos) (iEnum K ta) := hK ▸ pi_enum hg hm ha hs
theorem pg_tupK {K : PySem.W.Frag} {es : List Expr} {k : Nat} {t : TGs} {n : Nat} {pos : Pos} (hK : X.K = K) (hc : X.calm = true) (h : PGs X es t)
    (hn : (assignEach es X.env).length = n := by rfl) (hst : (assignEach es X.env).findIdx? (·.1) = none := by rfl) : PG X (.Tuple es k pos) (gTup K n t) := hK ▸ pg_tup hc h hn hst
theorem pe_bmK {K : PySem.W.Frag} {T id : String} {name : Str} {r : V → List V → Hp → VK → Prop} {o e : Expr} {es : List Expr} {to : TE} {t : TA} {apos cpos : Pos} (hK : X.K = K) (h : PE X (.Call (.Attribute o name apos) (e :: es) [] cpos) (tBM X.K T r to t)) : PE X (.Call (.Attribute o name apos) (e :: es) [] cpos) (tBM K T r to t) := hK ▸ h
theorem pe_bm0K {K : PySem.W.Frag} {T id : String} {name : Str} {r : V → List V → Hp → VK → Prop} {o : Expr} {to : TE} {apos cpos : Pos} (hK : X.K = K) (h : PE X (.Call (.Attribute o name apos) [] [] cpos) (tBM0 X.K T r to)) : PE X (.Call (.Attribute o name apos) [] [] cpos) (tBM0 K T r to) := hK ▸ h
end
end Y
/-! The walk through a reading, step by step. -/
namespace Y
open PySem PySem.Spec PyProof.Rows L2
section
variable {K : PySem.W.Frag} {σ : L2.St} {H : Hp} {Q : VK} {D : Ends} {ta tb te tc : TE} {t u : TS} {tt tu : TT} {i : Nat} {v x y : V} {r r' : R2} {g : TG} {nx bk ct : L2.St → Hp → Prop} {rt : VK} {QT : Bool → Hp → Prop} {QA : List V → Hp → Prop}

/-! ### statements -/
theorem y_seq (h : t ⟨u ⟨nx, rt, bk, ct⟩, rt, bk, ct⟩ σ H) : tSeq t u ⟨nx, rt, bk, ct⟩ σ H := h
theorem y_next (h : nx σ H) : tNext ⟨nx, rt, bk, ct⟩ σ H := h
theorem y_break (h : bk σ H) : tBreak ⟨nx, rt, bk, ct⟩ σ H := h
theorem y_cont (h : ct σ H) : tCont ⟨nx, rt, bk, ct⟩ σ H := h
theorem y_asg (h : te σ H fun x H1 => g x σ H1 nx) : tAsg te g ⟨nx, rt, bk, ct⟩ σ H := h
theorem y_gname {N : L2.St → Hp → Prop} (h : N (σ.set i (some v)) H) : gName i v σ H N := h
theorem y_drop (h : te σ H fun _ H1 => nx σ H1) : tDrop te ⟨nx, rt, bk, ct⟩ σ H := h
theorem y_ret (h : te σ H rt) : tRet te ⟨nx, rt, bk, ct⟩ σ H := h
theorem y_retN (h : rt .non H) : tRetN ⟨nx, rt, bk, ct⟩ σ H := h
theorem y_ifS (h : tt σ H fun b H1 => if b = true then t ⟨nx, rt, bk, ct⟩ σ H1 else u ⟨nx, rt, bk, ct⟩ σ H1) : tIfS tt t u ⟨nx, rt, bk, ct⟩ σ H := h
theorem y_aug {ti : TIp} (h : σ[i]? = some (some x)) (q : te σ H fun y H1 => ti x y H1 fun z H2 => nx (σ.set i (some z)) H2) : tAug i te ti ⟨nx, rt, bk, ct⟩ σ H := ⟨x, h, q⟩
theorem y_ipI {f : Int → Int → Int} {a b : Int} (q : Q (.int (f a b)) H) : ipI f (.int a) (.int b) H Q := ⟨a, b, rfl, rfl, q⟩

/-- behind a statement R holds, whatever comes then -/
theorem y_cutS {ts : TS} {R : L2.St → Hp → Prop} (h1 : ∀ nx' : L2.St → Hp → Prop, (∀ σ H, R σ H → nx' σ H) → ts ⟨nx', rt, bk, ct⟩ σ H) (h2 : ∀ σ H, R σ H → nx σ H) : ts ⟨nx, rt, bk, ct⟩ σ H := h1 nx h2
/-- behind an expression, a test -/
theorem y_cutE {R : V → Hp → Prop} (h1 : ∀ Q' : VK, (∀ v H, R v H → Q' v H) → te σ H Q') (h2 : ∀ v H, R v H → Q v H) : te σ H Q := h1 Q h2
theorem y_cutT {R : Bool → Hp → Prop} (h1 : ∀ Q' : Bool → Hp → Prop, (∀ v H, R v H → Q' v H) → tt σ H Q') (h2 : ∀ v H, R v H → QT v H) : tt σ H QT := h1 QT h2

/-! ### expressions -/
theorem y_var (h : σ[i]? = some (some v)) (q : Q v H) : tVar i σ H Q := ⟨v, h, q⟩
theorem y_c (q : Q v H) : tC v σ H Q := q
theorem y_op (h : ta σ H fun x H1 => tb σ H1 fun y H2 => r x y H2 Q) : tOp r ta tb σ H Q := h
theorem y_un {r : V → Hp → VK → Prop} (h : ta σ H fun x H1 => r x H1 Q) : tUn r ta σ H Q := h
theorem y_ifE (h : tt σ H fun c H1 => if c = true then ta σ H1 Q else tb σ H1 Q) : tIf tt ta tb σ H Q := h
theorem y_nil (h : QA [] H) : tNil σ H QA := h
theorem y_cons {tr : TA} (h : ta σ H fun x H1 => tr σ H1 fun xs H2 => QA (x :: xs) H2) : tCons ta tr σ H QA := h
theorem y_call {sp : Sp} {dvs : List V} {E : XK} {t : TA} (h : t σ H fun vs H1 => sp (vs ++ dvs) H1 Q E) : tCall sp dvs E t σ H Q := h
theorem y_callK {sp : Sp} {gV : List V → List V → List V} {E : XK} {t tk : TA} (h : t σ H fun vs H1 => tk σ H1 fun zs H2 => sp (gV vs zs) H2 Q E) : tCallK sp gV E t tk σ H Q := h
theorem y_cb {r : List V → Hp → VK → Prop} {t : TA} (h : t σ H fun vs H1 => r vs H1 Q) : tCB r t σ H Q := h
theorem y_bm {T : String} {r : V → List V → Hp → VK → Prop} {t : TA} (h : ta σ H fun x H1 => tyV K T x H1 ∧ t σ H1 fun xs H2 => r x xs H2 Q) : tBM K T r ta t σ H Q := h
theorem y_bm0 {T : String} {r : V → List V → Hp → VK → Prop} (h : ta σ H fun x H1 => tyV K T x H1 ∧ r x [] H1 Q) : tBM0 K T r ta σ H Q := h
theorem y_sl {r : V → Option Int → Option Int → Hp → VK → Prop} {tl th : TO} (h : te σ H fun x H1 => tl σ H1 fun l H2 => th σ H2 fun u H3 => r x l u H3 Q) : tSl r te tl th σ H Q := h
theorem y_nopart {QO : Option Int → Hp → Prop} (h : QO none H) : tNoPart σ H QO := h
/-- a part of a slice, an int -/
def PtK (QO : Option Int → Hp → Prop) : VK := fun x H1 => ∃ i, x = .int i ∧ QO (some i) H1
theorem y_part {QO : Option Int → Hp → Prop} (h : te σ H (PtK QO)) : tPart te σ H QO := h
theorem y_ptK {QO : Option Int → Hp → Prop} {j : Int} (h : QO (some j) H) : PtK QO (.int j) H := ⟨j, rfl, h⟩

/-! ### tests -/
/-- a bool is wanted -/
def BlK (QT : Bool → Hp → Prop) : VK := fun x H' => ∃ k, x = .bl k ∧ QT k H'
theorem y_blK {b : Bool} (h : QT b H) : BlK QT (.bl b) H := ⟨b, rfl, h⟩
theorem y_test (h : te σ H (BlK QT)) : tTest te σ H QT := h
theorem y_tB (h : te σ H (BlK QT)) : tB te σ H QT := h
theorem y_and (h : tt σ H fun c H1 => if c = true then tu σ H1 QT else QT false H1) : tAnd tt tu σ H QT := h
theorem y_or (h : tt σ H fun c H1 => if c = true then QT true H1 else tu σ H1 QT) : tOr tt tu σ H QT := h
theorem y_not (h : tt σ H fun c H1 => QT (!c) H1) : tNot tt σ H QT := h
/-- a bool among values: and, or, not -/
def AndK (tb : TE) (σ : L2.St) (Q : VK) : VK := fun x H1 => ∃ c, x = .bl c ∧ if c = true then tb σ H1 Q else Q (.bl false) H1
theorem y_andV (h : ta σ H (AndK tb σ Q)) : tAndV ta tb σ H Q := h
theorem y_andK {b : Bool} (h : if b = true then tb σ H Q else Q (.bl false) H) : AndK tb σ Q (.bl b) H := ⟨b, rfl, h⟩
def OrK (tb : TE) (σ : L2.St) (Q : VK) : VK := fun x H1 => ∃ c, x = .bl c ∧ if c = true then Q (.bl true) H1 else tb σ H1 Q
theorem y_orV (h : ta σ H (OrK tb σ Q)) : tOrV ta tb σ H Q := h
theorem y_orK {b : Bool} (h : if b = true then Q (.bl true) H else tb σ H Q) : OrK tb σ Q (.bl b) H := ⟨b, rfl, h⟩
def NotK (Q : VK) : VK := fun x H1 => ∃ c, x = .bl c ∧ Q (.bl (!c)) H1
theorem y_notV (h : ta σ H (NotK Q)) : tNotV ta σ H Q := h
theorem y_notK {b : Bool} (h : Q (.bl (!b)) H) : NotK Q (.bl b) H := ⟨b, rfl, h⟩
def ChK (r' : R2) (tc : TE) (σ : L2.St) (y : V) (Q : VK) : VK := fun z H3 => ∃ k, z = .bl k ∧ (if k = true then tc σ H3 fun w' H4 => r' y w' H4 Q else Q (.bl false) H3)
theorem y_chain (h : ta σ H fun x H1 => tb σ H1 fun y H2 => r x y H2 (ChK r' tc σ y Q)) : tChain r r' ta tb tc σ H Q := h
theorem y_chK {b : Bool} (h : if b = true then tc σ H fun w' H4 => r' y w' H4 Q else Q (.bl false) H) : ChK r' tc σ y Q (.bl b) H := ⟨b, rfl, h⟩

theorem y_ite {p : Prop} [Decidable p] {A B : Prop} (h1 : p → A) (h2 : ¬ p → B) : if decide p = true then A else B := by
  by_cases h : p
  · rw [if_pos (decide_eq_true h)]; exact h1 h
  · rw [if_neg (by simp [h])]; exact h2 h
theorem y_iteN {p : Prop} [Decidable p] {A B : Prop} (h1 : ¬ p → A) (h2 : p → B) : if (!decide p) = true then A else B := by
  by_cases h : p
  · rw [if_neg (by simp [h])]; exact h2 h
  · rw [if_pos (by simp [h])]; exact h1 h
theorem y_iteB {b : Bool} {A B : Prop} (h1 : b = true → A) (h2 : b = false → B) : if b = true then A else B := by
  cases b
  · rw [if_neg (by decide)]; exact h2 rfl
  · rw [if_pos rfl]; exact h1 rfl
theorem y_iteI {a b : Int} {A B : Prop} (h1 : a = b → A) (h2 : a ≠ b → B) : if decide (V.int a = V.int b) = true then A else B := y_ite (fun h => h1 (V.int.inj h)) fun h => h2 fun z => h (by rw [z])
theorem y_iteIN {a b : Int} {A B : Prop} (h1 : a ≠ b → A) (h2 : a = b → B) : if (!decide (V.int a = V.int b)) = true then A else B := y_iteN (fun h => h1 fun z => h (by rw [z])) fun h => h2 (V.int.inj h)
theorem y_iteS {a b : Str} {A B : Prop} (h1 : a = b → A) (h2 : a ≠ b → B) : if decide (V.str a = V.str b) = true then A else B := y_ite (fun h => h1 (V.str.inj h)) fun h => h2 fun z => h (by rw [z])
theorem y_iteSN {a b : Str} {A B : Prop} (h1 : a ≠ b → A) (h2 : a = b → B) : if (!decide (V.str a = V.str b)) = true then A else B := y_iteN (fun h => h1 fun z => h (by rw [z])) fun h => h2 (V.str.inj h)
theorem y_true {A B : Prop} (h : A) : if true = true then A else B := by rw [if_pos rfl]; exact h
theorem y_notT {A B : Prop} (h : B) : if (!true) = true then A else B := by rw [if_neg (by decide)]; exact h
theorem y_notF {A B : Prop} (h : A) : if (!false) = true then A else B := by rw [if_pos (by decide)]; exact h
theorem y_false {A B : Prop} (h : B) : if false = true then A else B := by rw [if_neg (by decide)]; exact h

/-! ### operators on values -/
theorem y_addI {i j : Int} (q : Q (.int (i + j)) H) : rAddU K (.int i) (.int j) H Q := .inl ⟨i, j, rfl, rfl, q⟩
theorem y_addS {i j : Str} (h : i.length + j.length ≤ sizeLine) (q : Q (.str (i ++ j)) H) : rAddU K (.str i) (.str j) H Q := .inr (.inl ⟨i, j, rfl, rfl, h, q⟩)
theorem y_subI {i j : Int} (q : Q (.int (i - j)) H) : rSubI (.int i) (.int j) H Q := ⟨i, j, rfl, rfl, q⟩
theorem y_mulI {i j : Int} (h : CMul i j) (q : Q (.int (i * j)) H) : rMulI (.int i) (.int j) H Q := ⟨i, j, rfl, rfl, h, q⟩
theorem y_divI {i j : Int} (h : CDivW i j) (q : Q (.int (i / j)) H) : rDivI (.int i) (.int j) H Q := ⟨i, j, rfl, rfl, h, q⟩
theorem y_modI {i j : Int} (h : 0 < j) (q : Q (.int (i % j)) H) : rModI (.int i) (.int j) H Q := ⟨i, j, rfl, rfl, h, q⟩
theorem y_powI {i j : Int} (h : CPowW i j) (q : Q (.int (i ^ j.toNat)) H) : rPowI (.int i) (.int j) H Q := ⟨i, j, rfl, rfl, h, q⟩
theorem y_negI {i : Int} (q : Q (.int (-i)) H) : rNegI (.int i) H Q := ⟨i, rfl, q⟩
theorem y_ltI {i j : Int} (q : Q (.bl (decide (i < j))) H) : rLtU (.int i) (.int j) H Q := .inl ⟨i, j, rfl, rfl, q⟩
theorem y_ltS {i j : Str} (q : Q (.bl (decide (i.cps.toList < j.cps.toList))) H) : rLtU (.str i) (.str j) H Q := .inr ⟨i, j, rfl, rfl, q⟩
theorem y_leI {i j : Int} (q : Q (.bl (decide (i ≤ j))) H) : rLeU (.int i) (.int j) H Q := .inl ⟨i, j, rfl, rfl, q⟩
theorem y_leS {i j : Str} (q : Q (.bl (!decide (j.cps.toList < i.cps.toList))) H) : rLeU (.str i) (.str j) H Q := .inr ⟨i, j, rfl, rfl, q⟩
theorem y_gtI {i j : Int} (q : Q (.bl (decide (j < i))) H) : rGtI (.int i) (.int j) H Q := ⟨i, j, rfl, rfl, q⟩
theorem y_geI {i j : Int} (q : Q (.bl (decide (j ≤ i))) H) : rGeI (.int i) (.int j) H Q := ⟨i, j, rfl, rfl, q⟩
theorem y_eqI {i j : Int} (q : Q (.bl (decide (V.int i = V.int j))) H) : rEqU K (.int i) (.int j) H Q := .inl ⟨rfl, q⟩
theorem y_eqS {i j : Str} (q : Q (.bl (decide (V.str i = V.str j))) H) : rEqU K (.str i) (.str j) H Q := .inl ⟨rfl, q⟩
theorem y_neI {i j : Int} (q : Q (.bl (!decide (V.int i = V.int j))) H) : rNeU K (.int i) (.int j) H Q := .inl ⟨rfl, q⟩
theorem y_neS {i j : Str} (q : Q (.bl (!decide (V.str i = V.str j))) H) : rNeU K (.str i) (.str j) H Q := .inl ⟨rfl, q⟩
theorem y_isN (q : Q (.bl (decide (x = .non))) H) : rIsNU x .non H Q := ⟨rfl, q⟩
theorem y_notN (q : Q (.bl (!decide (x = .non))) H) : rNotNU x .non H Q := ⟨rfl, q⟩
theorem y_isN0 (q : Q (.bl true) H) : rIsNU .non .non H Q := ⟨rfl, q⟩
theorem y_isN1 {a : Addr} (q : Q (.bl false) H) : rIsNU (.ref a) .non H Q := ⟨rfl, q⟩
theorem y_isN2 {a : Int} (q : Q (.bl false) H) : rIsNU (.int a) .non H Q := ⟨rfl, q⟩
theorem y_notN0 (q : Q (.bl false) H) : rNotNU .non .non H Q := ⟨rfl, q⟩
theorem y_notN1 {a : Addr} (q : Q (.bl true) H) : rNotNU (.ref a) .non H Q := ⟨rfl, q⟩
theorem y_notN2 {a : Int} (q : Q (.bl true) H) : rNotNU (.int a) .non H Q := ⟨rfl, q⟩
theorem y_eqD {d e : PyData} (h1 : Dp K H x d) (h2 : Dp K H y e) (s1 : SeqAt.shaped d = true) (s2 : SeqAt.shaped e = true) (q : Q (.bl (PyData.eqv d e)) H) : rEqU K x y H Q := .inr (.inl ⟨d, e, h1, h2, s1, s2, q⟩)
theorem y_neD {d e : PyData} (h1 : Dp K H x d) (h2 : Dp K H y e) (s1 : SeqAt.shaped d = true) (s2 : SeqAt.shaped e = true) (q : Q (.bl (!PyData.eqv d e)) H) : rNeU K x y H Q := .inr (.inl ⟨d, e, h1, h2, s1, s2, q⟩)
/-- != of two tuples that are alike -/
theorem y_neA {n : Nat} {a b : Addr} {xs ys : List V} (hn : n ≤ 60) (h1 : SqT K H a xs) (h2 : SqT K H b ys) (h : Paired (Al K H n) xs ys) (q : Q (.bl false) H) : rNeU K (.ref a) (.ref b) H Q := .inr (.inr (.inl ⟨n, a, b, xs, ys, hn, rfl, rfl, h1, h2, h, q⟩))
theorem y_eqA {n : Nat} (hn : n ≤ 60) (h : AlR K H (Al K H n) x y) (q : Q (.bl true) H) : rEqU K x y H Q := .inr (.inr (.inl ⟨n, hn, h, q⟩))
/-- a list and the empty list -/
theorem y_eqE {a b : Addr} {xs : List V} (h1 : SqL K H a xs) (h2 : SqL K H b []) (q : Q (.bl xs.isEmpty) H) : rEqU K (.ref a) (.ref b) H Q := .inr (.inr (.inr ⟨a, b, xs, rfl, rfl, h1, h2, q⟩))
theorem y_neE {a b : Addr} {xs : List V} (h1 : SqL K H a xs) (h2 : SqL K H b []) (q : Q (.bl (!xs.isEmpty)) H) : rNeU K (.ref a) (.ref b) H Q := .inr (.inr (.inr ⟨a, b, xs, rfl, rfl, h1, h2, q⟩))

/-! ### built-in calls -/
def rLenU (K : PySem.W.Frag) : List V → Hp → VK → Prop := fun xs H Q => (∃ x n, xs = [x] ∧ LenV K x H n ∧ Q (.int n) H) ∨ ∃ a kvs, xs = [V.ref a] ∧ Rd H a (.dK kvs) ∧ Q (.int kvs.length) H
/-- len of a dict, locked perhaps -/
theorem call_lenR {X : Cx} : CallR X (.builtin "len") (fun xs H Q => ∃ a kvs, xs = [V.ref a] ∧ Rd H a (.dK kvs) ∧ Q (.int kvs.length) H) := by
  intro pins s σ H xs us Q I r h
  obtain ⟨a, kvs, rfl, ha, q⟩ := h
  obtain ⟨u, rfl, ru⟩ := vals1 r
  obtain rfl : u = Value.ref a := ru
  exact d_len I ha fun t s2 I2 => ⟨.int kvs.length, H, I2, ⟨t, rfl⟩, q⟩
theorem call_lenU {X : Cx} {K : PySem.W.Frag} (hK : X.K = K) : CallR X (.builtin "len") (rLenU K) := hK ▸ CallR.or call_len call_lenR
theorem y_lenL {a : Addr} {xs : List V} (h : SqL K H a xs) (q : Q (.int xs.length) H) : rLenU K [.ref a] H Q := .inl ⟨_, _, rfl, .inl ⟨xs, h, rfl⟩, q⟩
theorem y_lenT {a : Addr} {xs : List V} (h : SqT K H a xs) (q : Q (.int xs.length) H) : rLenU K [.ref a] H Q := .inl ⟨_, _, rfl, .inr ⟨xs, h, rfl⟩, q⟩
theorem y_lenS {z : Str} (h : z.length ≤ sizeLine) (q : Q (.int z.length) H) : rLenU K [.str z] H Q := .inl ⟨_, _, rfl, ⟨h, rfl⟩, q⟩
theorem y_lenD {a : Addr} {kvs : List (Key × V)} (h : Rd H a (.dK kvs)) (q : Q (.int kvs.length) H) : rLenU K [.ref a] H Q := .inr ⟨a, kvs, rfl, h, q⟩
def rMax2 : List V → Hp → VK → Prop := fun xs H Q => ∃ i j, xs = [.int i, .int j] ∧ Q (.int (if j > i then j else i)) H
def rMin2 : List V → Hp → VK → Prop := fun xs H Q => ∃ i j, xs = [.int i, .int j] ∧ Q (.int (if j < i then j else i)) H
theorem call_max2U {X : Cx} (hc : X.calm = true) : CallR X (.builtin "max") rMax2 := call_max2 hc
theorem call_min2U {X : Cx} (hc : X.calm = true) : CallR X (.builtin "min") rMin2 := call_min2 hc
theorem y_max2 {i j : Int} (q : Q (.int (max i j)) H) : rMax2 [.int i, .int j] H Q := ⟨i, j, rfl, by
  have e : (if j > i then j else i) = max i j := by omega
  rw [e]; exact q⟩
theorem y_min2 {i j : Int} (q : Q (.int (min i j)) H) : rMin2 [.int i, .int j] H Q := ⟨i, j, rfl, by
  have e : (if j < i then j else i) = min i j := by omega
  rw [e]; exact q⟩
def rListOf (K : PySem.W.Frag) : List V → Hp → VK → Prop := fun xs H Q => ∃ p ys, xs = [.ref p] ∧ (SqL K H p ys ∨ SqT K H p ys) ∧ ∀ l, H l = none → Q (.ref l) (upd H l (.lst ys))
theorem call_listU {X : Cx} {K : PySem.W.Frag} (hK : X.K = K) : CallR X (.type "list") (rListOf K) := hK ▸ call_list_of
def rTupOf (K : PySem.W.Frag) : List V → Hp → VK → Prop := fun xs H Q => ∃ p ys, xs = [.ref p] ∧ ((SqL K H p ys ∧ ∀ l, H l = none → Q (.ref l) (upd H l (.tup ys))) ∨ (SqT K H p ys ∧ Q (.ref p) H))
theorem call_tupU {X : Cx} {K : PySem.W.Frag} (hK : X.K = K) : CallR X (.type "tuple") (rTupOf K) := hK ▸ call_tuple_of

/-! ### subscripts -/
theorem y_ixL {p : Addr} {xs : List V} {i : Int} (h : SqL K H p xs) (ha : atI xs i = some v) (q : Q v H) : rIxU K (.ref p) (.int i) H Q := .inl (.inl ⟨p, xs, i, v, rfl, rfl, h, ha, q⟩)
theorem y_ixT {p : Addr} {xs : List V} {i : Int} (h : SqT K H p xs) (ha : atI xs i = some v) (q : Q v H) : rIxU K (.ref p) (.int i) H Q := .inl (.inr (.inl ⟨p, xs, i, v, rfl, rfl, h, ha, q⟩))
theorem y_ixS {z : Str} {i : Int} {c : Nat} (h : z.length ≤ sizeLine) (ha : atI z.cps.toList i = some c) (q : Q (.str ⟨#[c]⟩) H) : rIxU K (.str z) (.int i) H Q := .inl (.inr (.inr ⟨z, i, c, rfl, rfl, h, ha, q⟩))
theorem y_ixD {a : Addr} {kvs : List (Key × V)} {k : Key} (h : Rd H a (.dK kvs)) (hk : y = kV k) (hv : valV kvs k = some v) (q : Q v H) : rIxU K (.ref a) y H Q := .inr ⟨a, v, rfl, .inl ⟨kvs, k, h, hk, hv.symm⟩, q⟩
theorem y_inD {a : Addr} {kvs : List (Key × V)} {k : Key} (h : Rd H a (.dK kvs)) (hk : x = kV k) (q : Q (.bl (valV kvs k).isSome) H) : rInU K x (.ref a) H Q := .inr (.inr ⟨a, _, rfl, .inl ⟨kvs, k, h, hk, rfl⟩, q⟩)
theorem y_notInD {a : Addr} {kvs : List (Key × V)} {k : Key} (h : Rd H a (.dK kvs)) (hk : x = kV k) (q : Q (.bl (!(valV kvs k).isSome)) H) : rNotInU K x (.ref a) H Q := .inr (.inr ⟨a, _, rfl, .inl ⟨kvs, k, h, hk, rfl⟩, q⟩)
theorem y_inL {a : Addr} {xs : List V} (h : SqL K H a xs) (hx : flatV x = true) (hf : xs.all flatV = true) (q : Q (.bl (inV x xs)) H) : rInU K x (.ref a) H Q := .inl ⟨a, xs, rfl, .inl h, hx, hf, q⟩
theorem y_notInL {a : Addr} {xs : List V} (h : SqL K H a xs) (hx : flatV x = true) (hf : xs.all flatV = true) (q : Q (.bl (!inV x xs)) H) : rNotInU K x (.ref a) H Q := .inl ⟨a, xs, rfl, .inl h, hx, hf, q⟩
theorem y_inSg {c : Nat} {z : Str} (q : Q (.bl (decide (c ∈ z.cps.toList))) H) : rInU K (.str ⟨#[c]⟩) (.str z) H Q := .inr (.inl ⟨c, z, rfl, rfl, q⟩)
theorem y_notInSg {c : Nat} {z : Str} (q : Q (.bl (!decide (c ∈ z.cps.toList))) H) : rNotInU K (.str ⟨#[c]⟩) (.str z) H Q := .inr (.inl ⟨c, z, rfl, rfl, q⟩)
end

/-! ### with the state -/
section
variable {K : PySem.W.Frag} {σ : L2.St} {e : En} {B H : Hp} {L : Led} {Q : VK} {ta tb te : TE} {tl : TA} {v x y : V} {xs ys : List V} {a b p : Addr} {o : HO} {QT : Bool → Hp → Prop}

/-- a thing is laid: it is wanted of each place -/
def NewK (o : HO) (Q : VK) : Hp → Prop := fun H => ∀ p, H p = none → Q (.ref p) (upd H p o)
/-- .. never changed again -/
theorem y_newI (S : Sy e B H L) (k : ∀ p B' H', Same B B' → B' p = some o → e.H p = none → Sy e B' H' L → Q (.ref p) H') : NewK o Q H := fun p hp => by
  obtain ⟨s1, s2⟩ := S.newI (o := o) hp
  refine k p _ _ s1 upd_same ?_ s2
  cases q : e.H p with
  | none => rfl
  | some x => exact absurd hp (S.there p (by rw [q]; simp))
/-- .. that may be changed -/
theorem y_newM (S : Sy e B H L) (k : ∀ p H', e.H p = none → Sy e B H' ((p, o) :: L) → Q (.ref p) H') (no : NT o := by intro _ z; cases z) : NewK o Q H := fun p hp => by
  obtain ⟨s1, s2⟩ := S.newM (o := o) hp no
  exact k p _ s1 s2
/-- .. behind the first of the ledger -/
theorem y_newM1 {q : Addr × HO} (S : Sy e B H (q :: L)) (k : ∀ p H', e.H p = none → Sy e B H' (q :: (p, o) :: L) → Q (.ref p) H') (no : NT o := by intro _ z; cases z) : NewK o Q H := y_newM S (fun p H' h S' => k p H' h S'.swap) no
theorem y_tup (h : tl σ H fun xs H1 => xs.length ≤ sizeLine ∧ NewK (.tup xs) Q H1) : tTup tl σ H Q := h
theorem y_lst (h : tl σ H fun xs H1 => xs.length ≤ sizeLine ∧ NewK (.lst xs) Q H1) : tLst tl σ H Q := h
theorem y_catL {l b : Addr} (S : Sy e B H L) (h1 : H l = some (.lst xs)) (h2 : H b = some (.lst ys)) (hl : xs.length + ys.length ≤ sizeLine) (q : NewK (.lst (xs ++ ys)) Q H) : rAddU K (.ref l) (.ref b) H Q := .inr (.inr (.inl ⟨l, b, xs, ys, rfl, rfl, h1, h2, hl, q⟩))
theorem y_listOf {p : Addr} (h : SqL K H p xs) (q : NewK (.lst xs) Q H) : rListOf K [.ref p] H Q := ⟨p, xs, rfl, .inl h, q⟩
theorem y_listOfT {p : Addr} (h : SqT K H p xs) (q : NewK (.lst xs) Q H) : rListOf K [.ref p] H Q := ⟨p, xs, rfl, .inr h, q⟩
theorem y_tupOf {p : Addr} (h : SqL K H p xs) (q : NewK (.tup xs) Q H) : rTupOf K [.ref p] H Q := ⟨p, xs, rfl, .inl ⟨h, q⟩⟩
theorem y_slL {p : Addr} {lo hi : Option Int} (h : SqL K H p xs) (q : NewK (.lst (cutV xs lo hi)) Q H) : rSlU K (.ref p) lo hi H Q := .inl ⟨p, xs, rfl, h, q⟩
theorem y_slS {z : Str} {lo hi : Option Int} (h : z.length ≤ sizeLine) (q : Q (.str (cutS z lo hi)) H) : rSlU K (.str z) lo hi H Q := .inr ⟨z, rfl, h, q⟩

/-! ### what stands -/
theorem Sy.d (S : Sy e B H L) {dd : PyData} (r : Dp K B v dd) : Dp K H v dd := Sub.d S.bh r
theorem Sy.l (S : Sy e B H L) (r : SqL K B a xs) : SqL K H a xs := S.bh.l r
theorem Sy.t (S : Sy e B H L) (r : SqT K B a xs) : SqT K H a xs := S.bh.t r
theorem Sy.rd (S : Sy e B H L) {u : HO} (r : B a = some u) : Rd H a u := S.bh.rd (.inl r)
theorem Sy.lst (S : Sy e B H L) (r : B a = some (.lst xs)) : H a = some (.lst xs) := S.bh.lst r
theorem Sy.tup (S : Sy e B H L) (r : B a = some (.tup xs)) : H a = some (.tup xs) := S.bh.tup r
theorem sqL (h : H a = some (.lst xs)) : SqL K H a xs := .inl (.inl h)
theorem sqT (h : H a = some (.tup xs)) : SqT K H a xs := .inl (.inl h)

/-! ### list methods on the ledger -/
theorem y_app0 {l : Addr} (S : Sy e B H ((l, .lst xs) :: L)) (hl : xs.length < sizeLine) (k : ∀ H', Sy e B H' ((l, .lst (xs ++ [v])) :: L) → Q .non H') : rAppend (.ref l) [v] H Q :=
  ⟨l, xs, v, rfl, rfl, S.g0, hl, k _ (S.w0 _)⟩
theorem y_app1 {l : Addr} {q : Addr × HO} (S : Sy e B H (q :: (l, .lst xs) :: L)) (hl : xs.length < sizeLine) (k : ∀ H', Sy e B H' (q :: (l, .lst (xs ++ [v])) :: L) → Q .non H') : rAppend (.ref l) [v] H Q :=
  ⟨l, xs, v, rfl, rfl, S.g1, hl, k _ (S.w1 _)⟩
theorem y_app2 {l : Addr} {q1 q2 : Addr × HO} (S : Sy e B H (q1 :: q2 :: (l, .lst xs) :: L)) (hl : xs.length < sizeLine) (k : ∀ H', Sy e B H' (q1 :: q2 :: (l, .lst (xs ++ [v])) :: L) → Q .non H') : rAppend (.ref l) [v] H Q :=
  ⟨l, xs, v, rfl, rfl, S.g2, hl, k _ (S.w2 _)⟩
theorem y_app3 {l : Addr} {q1 q2 q3 : Addr × HO} (S : Sy e B H (q1 :: q2 :: q3 :: (l, .lst xs) :: L)) (hl : xs.length < sizeLine) (k : ∀ H', Sy e B H' (q1 :: q2 :: q3 :: (l, .lst (xs ++ [v])) :: L) → Q .non H') : rAppend (.ref l) [v] H Q :=
  ⟨l, xs, v, rfl, rfl, S.g3, hl, k _ (S.w3 _)⟩
theorem tyL {l : Addr} (h : H l = some (.lst xs)) : tyV K "list" (.ref l) H := .inl ⟨rfl, _, .inl (.inl h)⟩
/-- pop at a place -/
theorem y_popAt1 {l : Addr} {q : Addr × HO} {i : Int} {j : Nat} (S : Sy e B H (q :: (l, .lst xs) :: L)) (hi : i = (j : Int)) (hj : xs[j]? = some v) (hs : xs.length ≤ sizeLine) (k : ∀ H', Sy e B H' (q :: (l, .lst (xs.eraseIdx j)) :: L) → Q v H') : rPopAt (.ref l) [.int i] H Q := by
  have h1 : j < xs.length := (List.getElem?_eq_some_iff.mp hj).1
  have h2 : sizeLine = 16777216 := sizeLine_eq
  refine ⟨l, xs, i, j, v, rfl, rfl, S.g1, by omega, by omega, ?_, hj, k _ (S.w1 _)⟩
  rw [hi]; exact PySem.StrLaws.seqIndex_nonneg (by omega) (by omega)
theorem y_popAt2 {l : Addr} {q1 q2 : Addr × HO} {i : Int} {j : Nat} (S : Sy e B H (q1 :: q2 :: (l, .lst xs) :: L)) (hi : i = (j : Int)) (hj : xs[j]? = some v) (hs : xs.length ≤ sizeLine) (k : ∀ H', Sy e B H' (q1 :: q2 :: (l, .lst (xs.eraseIdx j)) :: L) → Q v H') : rPopAt (.ref l) [.int i] H Q := by
  have h1 : j < xs.length := (List.getElem?_eq_some_iff.mp hj).1
  have h2 : sizeLine = 16777216 := sizeLine_eq
  refine ⟨l, xs, i, j, v, rfl, rfl, S.g2, by omega, by omega, ?_, hj, k _ (S.w2 _)⟩
  rw [hi]; exact PySem.StrLaws.seqIndex_nonneg (by omega) (by omega)
/-- o[i] = v -/
theorem y_gsub {to ti : TE} {tset : TSet} {N : L2.St → Hp → Prop} (h : to σ H fun o H1 => ti σ H1 fun i H2 => tset o i v H2 fun H3 => N σ H3) : gSub to ti tset v σ H N := h
theorem y_setL0 {l : Addr} {i : Int} {j : Nat} {N : Hp → Prop} (S : Sy e B H ((l, .lst xs) :: L)) (hj : ixN xs.length i = some j) (k : ∀ H', Sy e B H' ((l, .lst (xs.set j v)) :: L) → N H') : rSetU (.ref l) (.int i) v H N := .inl ⟨l, xs, i, j, rfl, rfl, S.g0, hj, k _ (S.w0 _)⟩
theorem y_setL1 {l : Addr} {q : Addr × HO} {i : Int} {j : Nat} {N : Hp → Prop} (S : Sy e B H (q :: (l, .lst xs) :: L)) (hj : ixN xs.length i = some j) (k : ∀ H', Sy e B H' (q :: (l, .lst (xs.set j v)) :: L) → N H') : rSetU (.ref l) (.int i) v H N := .inl ⟨l, xs, i, j, rfl, rfl, S.g1, hj, k _ (S.w1 _)⟩
theorem y_setD0 {d : Addr} {kvs : List (Key × V)} {kk : Key} {N : Hp → Prop} (S : Sy e B H ((d, .dK kvs) :: L)) (hk : x = kV kk) (hl : kvs.length < sizeLine) (k : ∀ H', Sy e B H' ((d, .dK (putK kvs kk v)) :: L) → N H') : rSetU (.ref d) x v H N := .inr ⟨d, _, rfl, .inl ⟨kvs, kk, S.g0, hk, hl, rfl⟩, k _ (S.w0 _)⟩
theorem y_setD1 {d : Addr} {q : Addr × HO} {kvs : List (Key × V)} {kk : Key} {N : Hp → Prop} (S : Sy e B H (q :: (d, .dK kvs) :: L)) (hk : x = kV kk) (hl : kvs.length < sizeLine) (k : ∀ H', Sy e B H' (q :: (d, .dK (putK kvs kk v)) :: L) → N H') : rSetU (.ref d) x v H N := .inr ⟨d, _, rfl, .inl ⟨kvs, kk, S.g1, hk, hl, rfl⟩, k _ (S.w1 _)⟩
theorem y_setD2 {d : Addr} {q1 q2 : Addr × HO} {kvs : List (Key × V)} {kk : Key} {N : Hp → Prop} (S : Sy e B H (q1 :: q2 :: (d, .dK kvs) :: L)) (hk : x = kV kk) (hl : kvs.length < sizeLine) (k : ∀ H', Sy e B H' (q1 :: q2 :: (d, .dK (putK kvs kk v)) :: L) → N H') : rSetU (.ref d) x v H N := .inr ⟨d, _, rfl, .inl ⟨kvs, kk, S.g2, hk, hl, rfl⟩, k _ (S.w2 _)⟩

/-! ### loops -/
def ForG (J : It) (g : TG) (tb : TS) (D : Ends) (σ : L2.St) (H : Hp) : Prop := ∃ W : Nat → Nat → L2.St → Hp → Prop, (∃ m, W 0 m σ H) ∧ ∀ i m σ H, W i m σ H →
  (J.stop i H ∧ D.nx σ H) ∨ (J.go i H ∧ ∃ N : L2.St → Hp → Prop, (∀ σ' H', N σ' H' → ∃ m', m' < m ∧ W (i + 1) m' σ' H') ∧ ∀ x H', J.yld i H x H' → g x σ H' fun σ2 H2 => tb { D with nx := N, ct := N, bk := D.nx } σ2 H2)
theorem y_for {wi : TI} {g : TG} {tb : TS} {D : Ends} (h : wi σ H fun J H1 => ForG J g tb D σ H1) : tFor wi g tb D σ H := h
theorem y_forG {J : It} {n : Nat} {G : Hp → Prop} {Y : Nat → Hp → V → Hp → Prop} {g : TG} {tb : TS} {nx bk ct : L2.St → Hp → Prop} {rt : VK} (w : Walk J n G Y) (Pv : Nat → L2.St → Hp → Prop) (h0 : Pv 0 σ H) (hG : ∀ i σ H, i ≤ n → Pv i σ H → G H)
    (hs : ∀ i x σ H H', i < n → Pv i σ H → Y i H x H' → g x σ H' fun σ2 H2 => tb ⟨Pv (i + 1), rt, nx, Pv (i + 1)⟩ σ2 H2) (hd : ∀ σ H, Pv n σ H → nx σ H) : ForG J g tb ⟨nx, rt, bk, ct⟩ σ H :=
  for_it w (D := ⟨nx, rt, bk, ct⟩) Pv h0 hG hs hd
def LcG (J : It) (g : TG) (tt : TT) (te : TE) (vs : List Nat) (σ : L2.St) (Q : VK) : Hp → Prop := fun H1 => ∀ D, H1 D = none → ∃ W : Nat → Nat → Hp → Prop, (∃ m, W 0 m (upd H1 D (.lst []))) ∧ ∀ i m H, W i m H →
  (J.stop i H ∧ Q (.ref D) H) ∨ (J.go i H ∧ ∃ Nx : Hp → Prop, (∀ H', Nx H' → ∃ m', m' < m ∧ W (i + 1) m' H') ∧ ∀ x H', J.yld i H x H' → g x (wipe σ vs) H' fun σ2 H2 => wipe σ2 vs = wipe σ vs ∧ tt σ2 H2 fun b H3 =>
    if b = true then te σ2 H3 fun y H4 => ∃ acc, H4 D = some (.lst acc) ∧ acc.length < sizeLine ∧ Nx (upd H4 D (.lst (acc ++ [y]))) else Nx H3)
theorem y_lc {wi : TI} {g : TG} {tt : TT} {vs : List Nat} (h : wi σ H fun J H1 => LcG J g tt te vs σ Q H1) : tLc wi g tt te vs σ H Q := h
/-- the item is put, the item is left out -/
def LcK (e : En) (B : Hp) (D : Addr) (Pv : Nat → Hp → List V → Led → Prop) (i : Nat) (y : V) (H4 : Hp) : Prop := ∃ B4 acc L4, Sy e B4 H4 ((D, .lst acc) :: L4) ∧ Same B B4 ∧ acc.length < sizeLine ∧ Pv (i + 1) B4 (acc ++ [y]) L4
def LcN (e : En) (B : Hp) (D : Addr) (Pv : Nat → Hp → List V → Led → Prop) (i : Nat) (H4 : Hp) : Prop := ∃ B4 acc L4, Sy e B4 H4 ((D, .lst acc) :: L4) ∧ Same B B4 ∧ Pv (i + 1) B4 acc L4
theorem y_lcG {J : It} {n : Nat} {G : Hp → Prop} {Y : Nat → Hp → V → Hp → Prop} {g : TG} {tt : TT} {vs : List Nat} (w : Walk J n G Y) (S : Sy e B H L) (Pv : Nat → Hp → List V → Led → Prop) (h0 : Pv 0 B [] L)
    (hG : ∀ i B1 H1 acc L1 D, Pv i B1 acc L1 → Same B B1 → Sy e B1 H1 ((D, .lst acc) :: L1) → G H1)
    (hs : ∀ i x B1 H1 H1' acc L1 D (Kp : VK) (Kn : Hp → Prop), i < n → Pv i B1 acc L1 → Same B B1 → e.H D = none → Sy e B1 H1 ((D, .lst acc) :: L1) → Y i H1 x H1' → (∀ y H4, LcK e B D Pv i y H4 → Kp y H4) → (∀ H4, LcN e B D Pv i H4 → Kn H4) →
      g x (wipe σ vs) H1' fun σ2 H2 => wipe σ2 vs = wipe σ vs ∧ tt σ2 H2 fun b H3 => if b = true then te σ2 H3 Kp else Kn H3)
    (hd : ∀ B1 H1 acc L1 D, Pv n B1 acc L1 → Same B B1 → e.H D = none → Sy e B1 H1 ((D, .lst acc) :: L1) → Q (.ref D) H1) : LcG J g tt te vs σ Q H := by
  intro D hD
  obtain ⟨s1, s2⟩ := S.newM (o := .lst []) hD
  refine lc_it w (fun i H1 => ∃ B1 acc L1, Sy e B1 H1 ((D, .lst acc) :: L1) ∧ Same B B1 ∧ Pv i B1 acc L1) ⟨B, [], L, s2, Same.refl B, h0⟩ ?_ ?_ ?_
  · rintro i H1 hi ⟨B1, acc, L1, S1, b1, p1⟩
    exact hG i B1 H1 acc L1 D p1 b1 S1
  · rintro i x H1 H1' hi ⟨B1, acc, L1, S1, b1, p1⟩ hy
    refine hs i x B1 H1 H1' acc L1 D _ _ hi p1 b1 s1 S1 hy (fun y H4 q => ?_) (fun H4 q => q)
    obtain ⟨B4, acc4, L4, S4, b4, l4, p4⟩ := q
    exact ⟨acc4, S4.g0, l4, B4, _, L4, S4.w0 _, b4, p4⟩
  · rintro H1 ⟨B1, acc, L1, S1, b1, p1⟩
    exact hd B1 H1 acc L1 D p1 b1 s1 S1
end
end Y
/-! Defs by their names, and their promises in the words of the state. -/
namespace Y
open PySem PySem.Spec PyProof.Rows L2

/-- the def called x keeps the promise sp (every parameter is given by place) -/
def Ok (P : Program) (w : World) (K : PySem.W.Frag) (mg : Str → Option Value) (base : Heap) (k : Nat) (x : Str) (ps : List Str) (sp : Sp) : Prop :=
  ∃ f fd, mg x = some (.ref f) ∧ PySem.W.keepIn K (.ref f) = true ∧ Binds K fd ps [] ∧ FnOk P w K mg base CX0 k f fd ps sp
/-- .. the last ones by their defaults -/
def OkD (P : Program) (w : World) (K : PySem.W.Frag) (mg : Str → Option Value) (base : Heap) (k : Nat) (x : Str) (ps : List Str) (dvs : List V) (sp : Sp) : Prop :=
  ∃ f fd ds, mg x = some (.ref f) ∧ PySem.W.keepIn K (.ref f) = true ∧ Vals dvs ds ∧ Binds K fd ps ds ∧ FnOk P w K mg base CX0 k f fd ps sp
/-- .. n by place, those called ks by name -/
def OkN (P : Program) (w : World) (K : PySem.W.Frag) (mg : Str → Option Value) (base : Heap) (k : Nat) (x : Str) (ps : List Str) (n : Nat) (ks : List Str) (gV : List V → List V → List V) (sp : Sp) : Prop :=
  ∃ f fd g, mg x = some (.ref f) ∧ PySem.W.keepIn K (.ref f) = true ∧ KBn K fd ps n ks g gV ∧ FnOk P w K mg base CX0 k f fd ps sp
section
variable {X : Cx} {k : Nat} {x : Str} {ps : List Str} {sp : Sp} {p pos : Pos} {e : Expr} {es : List Expr} {t tk : TA} {dvs : List V} {n : Nat} {ks : List Str} {gV : List V → List V → List V} {kws : List Keyword}
theorem pe_callO (O : Ok X.prog X.w X.K X.mg X.base k x ps sp) (hr : Room k X.A) (hg : Gl X x) (ha : PA X (e :: es) t) (hdb : (x == ("__debug__" : Str)) = false := by decide) (he : starEach (e :: es) X.env = (false, eval e X.env) :: starEach es X.env := by rfl) (hpl : (backTo pos (starEach es X.env)).any (·.1) = false := by rfl) :
    PE X (.Call (.Name x p) (e :: es) [] pos) (tCall sp [] E0 t) := by
  obtain ⟨f, fd, h1, h2, h3, h4⟩ := O
  exact pe_call h4 hr hg h1 h2 h3 .nil pass0 ha hdb he hpl
theorem pe_callOD (O : OkD X.prog X.w X.K X.mg X.base k x ps dvs sp) (hr : Room k X.A) (hg : Gl X x) (ha : PA X (e :: es) t) (hdb : (x == ("__debug__" : Str)) = false := by decide) (he : starEach (e :: es) X.env = (false, eval e X.env) :: starEach es X.env := by rfl) (hpl : (backTo pos (starEach es X.env)).any (·.1) = false := by rfl) :
    PE X (.Call (.Name x p) (e :: es) [] pos) (tCall sp dvs E0 t) := by
  obtain ⟨f, fd, ds, h1, h2, h0, h3, h4⟩ := O
  exact pe_call h4 hr hg h1 h2 h3 h0 pass0 ha hdb he hpl
theorem pe_callON (O : OkN X.prog X.w X.K X.mg X.base k x ps n ks gV sp) (hr : Room k X.A) (hg : Gl X x) (ha : PA X (e :: es) t) (hkw : PK X kws tk) (hall : (backToKw pos (keywordEach kws X.env)).all (·.1.isSome) = true := by rfl) (hks : (backToKw pos (keywordEach kws X.env)).filterMap (·.1) = ks := by rfl)
    (hdb : (x == ("__debug__" : Str)) = false := by decide) (he : starEach (e :: es) X.env = (false, eval e X.env) :: starEach es X.env := by rfl)
    (hpl : ((backTo pos (starEach (e :: es) X.env)).any (·.1) || (backToKw pos (keywordEach kws X.env)).any (·.1.isNone)) = false := by rfl) :
    PE X (.Call (.Name x p) (e :: es) kws pos) (tCallN n ks.length sp gV E0 t tk) := by
  obtain ⟨f, fd, g, h1, h2, h3, h4⟩ := O
  exact pe_callN h4 hr hg h1 h2 h3 pass0 ha hkw hall hks hdb he hpl
end
section
variable {P : Program} {w : World} {K : PySem.W.Frag} {mg : Str → Option Value} {base : Heap} {x : Str} {st : Stmt} {kws : List (Str × V)} {N ps : List Str} {k : Nat} {φ : Ph} {f : Addr} {dvs : List V}
/-- THE RULE for a def's body -/
theorem fnY {fd : FuncData} (F : FunD K x x (defArgs st) (defBody st) (defScope st) dvs kws f fd) (S : FnScope N ps (defScope st)) (len : ∀ B vs L k, φ B vs L k → vs.length = ps.length)
    (body : ∀ (cdv : Value) (A : Around) (outer : List Env) (s : Shared) (H : Hp) (vs : List V) (Q : VK) (E : XK) (B : Hp) (L : Led) (e : En), e.Z = [] → e.H = H → Room k (A.deeper (envOfC x (defScope st) s.heap.objs.size f cdv)) → Sy e B H L →
      (φ B vs L fun B' v L' => ∀ H', Sy e B' H' L' → Q v H') →
      ∃ t, PSs (cxOf CX0 P w K mg base N x (defScope st) f cdv A outer s H E).nox (defBody st) t ∧ t ⟨fun _ H' => Q .non H', Q, fun _ _ => False, fun _ _ => False⟩ (start N vs) H) : FnOk P w K mg base CX0 (k + 1) f fd ps (spY φ) := by
  refine F.ok S (fun vs H Q E h => ?_) (fun cdv A outer s H vs Q E hr h => ?_)
  · obtain ⟨B, L, _, h⟩ := h
    exact len _ _ _ _ h
  · obtain ⟨B, L, hh, h⟩ := h
    obtain ⟨t, h1, h2⟩ := body cdv A outer s H vs Q E B L _ rfl rfl hr hh.start h
    exact ⟨t, PSs.nox h1, h2⟩
theorem Ok.mk (F : ∃ fd, FunD K x x (defArgs st) (defBody st) (defScope st) [] kws f fd) (g : mg x = some (.ref f)) (S : FnScope N ps (defScope st))
    (hb : ∀ (kV doc pm : Value) (an : Option Addr) (cdv ct : Value) (us : List Value), us.length = ps.length → bindArgs (PySem.W.fnOf x x (defArgs st) (defBody st) (defScope st) .none kV doc pm an cdv ct) ⟨us, []⟩ = pure (ps.zip us))
    (len : ∀ B vs L k, φ B vs L k → vs.length = ps.length)
    (body : ∀ (cdv : Value) (A : Around) (outer : List Env) (s : Shared) (H : Hp) (vs : List V) (Q : VK) (E : XK) (B : Hp) (L : Led) (e : En), e.Z = [] → e.H = H → Room k (A.deeper (envOfC x (defScope st) s.heap.objs.size f cdv)) → Sy e B H L →
      (φ B vs L fun B' v L' => ∀ H', Sy e B' H' L' → Q v H') →
      ∃ t, PSs (cxOf CX0 P w K mg base N x (defScope st) f cdv A outer s H E).nox (defBody st) t ∧ t ⟨fun _ H' => Q .non H', Q, fun _ _ => False, fun _ _ => False⟩ (start N vs) H) : Ok P w K mg base (k + 1) x ps (spY φ) := by
  obtain ⟨fd, F⟩ := F
  exact ⟨f, fd, g, F.kp, F.bindsN hb, fnY F S len body⟩
theorem Ok.of {sp : Sp} (F : ∃ fd, FunD K x x (defArgs st) (defBody st) (defScope st) [] kws f fd) (g : mg x = some (.ref f))
    (hb : ∀ (kV doc pm : Value) (an : Option Addr) (cdv ct : Value) (us : List Value), us.length = ps.length → bindArgs (PySem.W.fnOf x x (defArgs st) (defBody st) (defScope st) .none kV doc pm an cdv ct) ⟨us, []⟩ = pure (ps.zip us))
    (h : ∀ fd, FunD K x x (defArgs st) (defBody st) (defScope st) [] kws f fd → FnOk P w K mg base CX0 k f fd ps sp) : Ok P w K mg base k x ps sp := by
  obtain ⟨fd, F⟩ := F
  exact ⟨f, fd, g, F.kp, F.bindsN hb, h fd F⟩
/-- called with n by place and those of ks by name, no defaults -/
theorem OkN.of {sp : Sp} {n : Nat} {ks : List Str} (gA : {α : Type} → List α → List α → List α) (F : ∃ fd, FunD K x x (defArgs st) (defBody st) (defScope st) [] kws f fd) (g : mg x = some (.ref f))
    (rel : ∀ {vs zs : List V} {us ws : List Value}, Vals vs us → Vals zs ws → Vals (gA vs zs) (gA us ws))
    (hb : ∀ (kV doc pm : Value) (an : Option Addr) (cdv ct : Value) (us ws : List Value), us.length = n → ws.length = ks.length → bindArgs (PySem.W.fnOf x x (defArgs st) (defBody st) (defScope st) .none kV doc pm an cdv ct) ⟨us, ks.zip ws⟩ = pure (ps.zip (gA us ws)))
    (h : ∀ fd, FunD K x x (defArgs st) (defBody st) (defScope st) [] kws f fd → FnOk P w K mg base CX0 k f fd ps sp) : OkN P w K mg base k x ps n ks (fun vs zs => gA vs zs) sp := by
  obtain ⟨fd, F⟩ := F
  refine ⟨f, fd, fun us ws => gA us ws, g, F.kp, ⟨fun s us ws _ h1 h2 => ?_, rel⟩, h fd F⟩
  obtain ⟨oc, od, dV, kV, doc, pm, an, cdv, ct, osl, rfl, lk, hcd, hD, hK⟩ := F.ex
  rcases hD with ⟨_, rfl⟩ | ⟨e, _⟩
  · exact .of_eq (hb kV doc pm an cdv ct us ws h1 h2)
  · exact absurd rfl e
/-- with defaults: n are written, the defaults from the j-th on fill up -/
theorem OkD.of {sp : Sp} (n j : Nat) (F : ∃ fd, FunD K x x (defArgs st) (defBody st) (defScope st) dvs kws f fd) (g : mg x = some (.ref f)) (hd : dvs ≠ []) (hn : n + (dvs.length - j) = ps.length)
    (hb : ∀ (T : Addr) (kV doc pm : Value) (an : Option Addr) (cdv ct : Value) (us its : List Value), us.length = n → its.length = dvs.length →
      ∃ kk, bindArgs (PySem.W.fnOf x x (defArgs st) (defBody st) (defScope st) (.ref T) kV doc pm an cdv ct) ⟨us, []⟩ = seqItems? (.ref T) >>= kk ∧ kk (some its.toArray) = pure (ps.zip (us ++ its.drop j)))
    (h : ∀ fd, FunD K x x (defArgs st) (defBody st) (defScope st) dvs kws f fd → FnOk P w K mg base CX0 k f fd ps sp) : OkD P w K mg base k x ps (dvs.drop j) sp := by
  obtain ⟨fd, F⟩ := F
  obtain ⟨ds, h1, h2⟩ := F.binds1 n j hd hn hb
  exact ⟨f, fd, ds, g, F.kp, h1, h2, h fd F⟩
/-- all are written -/
theorem OkD.all {sp : Sp} (O : OkD P w K mg base k x ps [] sp) : Ok P w K mg base k x ps sp := by
  obtain ⟨f, fd, ds, h1, h2, h3, h4, h5⟩ := O
  cases h3
  exact ⟨f, fd, h1, h2, h4, h5⟩
theorem OkN.ofD {sp : Sp} {n : Nat} {ks : List Str} (gA : {α : Type} → List α → List α → List α → List α) (F : ∃ fd, FunD K x x (defArgs st) (defBody st) (defScope st) dvs kws f fd) (g : mg x = some (.ref f)) (hd : dvs ≠ [])
    (rel : ∀ {vs zs ds : List V} {us ws is : List Value}, Vals vs us → Vals zs ws → Vals ds is → Vals (gA vs zs ds) (gA us ws is))
    (hb : ∀ (T : Addr) (kV doc pm : Value) (an : Option Addr) (cdv ct : Value) (us ws its : List Value), us.length = n → ws.length = ks.length → its.length = dvs.length →
      ∃ kk, bindArgs (PySem.W.fnOf x x (defArgs st) (defBody st) (defScope st) (.ref T) kV doc pm an cdv ct) ⟨us, ks.zip ws⟩ = seqItems? (.ref T) >>= kk ∧ kk (some its.toArray) = pure (ps.zip (gA us ws its)))
    (h : ∀ fd, FunD K x x (defArgs st) (defBody st) (defScope st) dvs kws f fd → FnOk P w K mg base CX0 k f fd ps sp) : OkN P w K mg base k x ps n ks (fun vs zs => gA vs zs dvs) sp := by
  obtain ⟨fd, F⟩ := F
  have hf := h fd F
  have kp := F.kp
  obtain ⟨oc, od, dV, kV, doc, pm, an, cdv, ct, osl, rfl, lk, hcd, hD, hK⟩ := F.ex
  rcases hD with ⟨e, _⟩ | ⟨_, T, o, its, m, rfl, lT, oT, rT⟩
  · exact absurd e hd
  · refine ⟨f, _, fun us ws => gA us ws its, g, kp, ⟨fun s us ws X h1 h2 => ?_, fun r1 r2 => rel r1 r2 rT⟩, hf⟩
    obtain ⟨kk, e1, e2⟩ := hb T kV doc pm an cdv ct us ws its h1 h2 rT.length.symm
    refine BindsTo.of_looks fun M => ?_
    rw [e1]
    exact looks_items X lT oT (.of_pure e2)
end
/-! ### a call, seen from the caller -/
section
variable {e : En} {B H : Hp} {L : Led} {φ : Ph} {vs : List V} {Q : VK} {E : XK} {a : Addr} {o : HO}
/-- nothing is handed over to be changed -/
theorem y_sp0 (S : Sy e B H L) (h : φ B vs [] fun B' v L' => ∀ H', Sy ⟨[], [], B, H⟩ B' H' L' → Q v H') : spY φ vs H Q E := ⟨B, [], S.hand0, h⟩
/-- the first of the ledger is handed over -/
theorem y_sp1 (S : Sy e B H ((a, o) :: L)) (h : φ B vs [(a, o)] fun B' v L' => ∀ H', Sy ⟨[a], [], B, H⟩ B' H' L' → Q v H') : spY φ vs H Q E := ⟨B, [(a, o)], S.hand1, h⟩
end
end Y
namespace Y
open PySem PySem.Spec PyProof.Rows L2
section
variable {K : PySem.W.Frag} {σ : L2.St} {e : En} {B H : Hp} {L : Led} {Q : VK} {te : TE} {ta : TA} {v x y : V} {xs ys : List V} {a b p : Addr} {R : It → Hp → Prop} {nx bk ct : L2.St → Hp → Prop} {rt : VK} {g : TG} {tb : TS}
/-! ### what is walked -/
def RngK (R : It → Hp → Prop) : List V → Hp → Prop := fun vs H1 => ∃ j : Int, vs = [.int j] ∧ -(2 ^ 62) ≤ j ∧ j < 2 ^ 62 ∧ R (Itr 0 j.toNat) H1
theorem y_irng1 (h : ta σ H (RngK R)) : iRng1 ta σ H R := h
theorem y_rngK {j : Int} (h1 : -(2 ^ 62) ≤ j) (h2 : j < 2 ^ 62) (q : R (Itr 0 j.toNat) H) : RngK R [.int j] H := ⟨j, rfl, h1, h2, q⟩
def RngK2 (R : It → Hp → Prop) : List V → Hp → Prop := fun vs H1 => ∃ i j : Int, vs = [.int i, .int j] ∧ (-(2 ^ 62) ≤ i ∧ i < 2 ^ 62 ∧ -(2 ^ 62) ≤ j ∧ j < 2 ^ 62) ∧ R (Itr i (j - i).toNat) H1
theorem y_irng2 (h : ta σ H (RngK2 R)) : iRng2 ta σ H R := h
theorem y_rngK2 {i j : Int} (h1 : -(2 ^ 62) ≤ i) (h2 : i < 2 ^ 62) (h3 : -(2 ^ 62) ≤ j) (h4 : j < 2 ^ 62) (q : R (Itr i (j - i).toNat) H) : RngK2 R [.int i, .int j] H := ⟨i, j, rfl, ⟨h1, h2, h3, h4⟩, q⟩
def LstK (K : PySem.W.Frag) (R : It → Hp → Prop) : VK := fun x H1 => ∃ a, x = .ref a ∧ (∃ xs, SqL K H1 a xs) ∧ R (Itl K a) H1
theorem y_ilist (h : te σ H (LstK K R)) : iList K te σ H R := h
theorem y_lstK (h : SqL K H a xs) (q : R (Itl K a) H) : LstK K R (.ref a) H := ⟨a, rfl, ⟨xs, h⟩, q⟩
def StrK (R : It → Hp → Prop) : VK := fun v H1 => ∃ x, v = .str x ∧ R (Its x) H1
theorem y_istr (h : te σ H (StrK R)) : iStr te σ H R := h
theorem y_strK {z : Str} (q : R (Its z) H) : StrK R (.str z) H := ⟨z, rfl, q⟩
def KeysK (R : It → Hp → Prop) : VK := fun x H1 => ∃ d o, x = .ref d ∧ ((∃ kvs, H1 d = some (.frz o (.dK kvs)) ∧ R (Itk d o kvs) H1) ∨ ∃ kvs, H1 d = some (.frz o (.dT kvs)) ∧ R (Itkt d o kvs) H1)
theorem y_ikeys (h : te σ H (KeysK R)) : iKeys te σ H R := h
theorem y_keysK {d : Addr} {o : Obj} {kvs : List (Key × V)} (h : H d = some (.frz o (.dK kvs))) (q : R (Itk d o kvs) H) : KeysK R (.ref d) H := ⟨d, o, rfl, .inl ⟨kvs, h, q⟩⟩
def ValsK (R : It → Hp → Prop) : VK := fun x H1 => ∃ d o kvs, x = .ref d ∧ H1 d = some (.frz o (.dK kvs)) ∧ R (Itd d o kvs) H1
theorem y_ivals (h : te σ H (ValsK R)) : iVals te σ H R := h
theorem y_valsK {d : Addr} {o : Obj} {kvs : List (Key × V)} (h : H d = some (.frz o (.dK kvs))) (q : R (Itd d o kvs) H) : ValsK R (.ref d) H := ⟨d, o, kvs, rfl, h, q⟩
def ItemsK (R : It → Hp → Prop) : VK := fun x H1 => ∃ d o kvs, x = .ref d ∧ H1 d = some (.frz o (.dK kvs)) ∧ R (Iti d o kvs) H1
theorem y_iitems (h : te σ H (ItemsK R)) : iItems te σ H R := h
theorem y_itemsK {d : Addr} {o : Obj} {kvs : List (Key × V)} (h : H d = some (.frz o (.dK kvs))) (q : R (Iti d o kvs) H) : ItemsK R (.ref d) H := ⟨d, o, kvs, rfl, h, q⟩
def ZipK (K : PySem.W.Frag) (R : It → Hp → Prop) : List V → Hp → Prop := fun vs H1 => ∃ a b xs ys, vs = [.ref a, .ref b] ∧ SqL K H1 a xs ∧ SqL K H1 b ys ∧ R (Itz K a b) H1
theorem y_izip (h : ta σ H (ZipK K R)) : iZip K ta σ H R := h
theorem y_zipK (h1 : SqL K H a xs) (h2 : SqL K H b ys) (q : R (Itz K a b) H) : ZipK K R [.ref a, .ref b] H := ⟨a, b, xs, ys, rfl, h1, h2, q⟩
def EnumK (K : PySem.W.Frag) (R : It → Hp → Prop) : List V → Hp → Prop := fun vs H1 => ∃ a xs, vs = [.ref a] ∧ SqL K H1 a xs ∧ R (Ite K a) H1
theorem y_ienum (h : ta σ H (EnumK K R)) : iEnum K ta σ H R := h
theorem y_enumK (h1 : SqL K H a xs) (q : R (Ite K a) H) : EnumK K R [.ref a] H := ⟨a, xs, rfl, h1, q⟩

/-! ### loops -/
theorem y_forR {lo : Int} {n : Nat} (Pv : Nat → L2.St → Hp → Prop) (h0 : Pv 0 σ H)
    (hs : ∀ i σ H, i < n → Pv i σ H → g (.int (lo + i)) σ H fun σ2 H2 => tb ⟨Pv (i + 1), rt, nx, Pv (i + 1)⟩ σ2 H2) (hd : ∀ σ H, Pv n σ H → nx σ H) : ForG (Itr lo n) g tb ⟨nx, rt, bk, ct⟩ σ H :=
  y_forG walk_range Pv h0 (fun _ _ _ _ _ => trivial) (fun i x σ H H' hi p y => by obtain ⟨y1, y2⟩ := y; subst y1 y2; exact hs i σ _ hi p) hd
theorem y_forL (Pv : Nat → L2.St → Hp → Prop) (h0 : Pv 0 σ H) (hG : ∀ i σ H, i ≤ xs.length → Pv i σ H → SqL K H a xs)
    (hs : ∀ i x σ H, xs[i]? = some x → Pv i σ H → g x σ H fun σ2 H2 => tb ⟨Pv (i + 1), rt, nx, Pv (i + 1)⟩ σ2 H2) (hd : ∀ σ H, Pv xs.length σ H → nx σ H) : ForG (Itl K a) g tb ⟨nx, rt, bk, ct⟩ σ H :=
  y_forG walk_list Pv h0 hG (fun i x σ H H' hi p y => by obtain ⟨y1, y2⟩ := y; subst y1; exact hs i x σ _ y2 p) hd
theorem y_forS {z : Str} (Pv : Nat → L2.St → Hp → Prop) (h0 : Pv 0 σ H)
    (hs : ∀ i c σ H, z.cps[i]? = some c → Pv i σ H → g (.str ⟨#[c]⟩) σ H fun σ2 H2 => tb ⟨Pv (i + 1), rt, nx, Pv (i + 1)⟩ σ2 H2) (hd : ∀ σ H, Pv z.cps.size σ H → nx σ H) : ForG (Its z) g tb ⟨nx, rt, bk, ct⟩ σ H :=
  y_forG walk_str Pv h0 (fun _ _ _ _ _ => trivial) (fun i x σ H H' hi p y => by obtain ⟨y1, c, y2, y3⟩ := y; subst y1 y3; exact hs i c σ _ y2 p) hd
/-- a new dict -/
theorem y_dnew (h : NewK (.dK []) Q H) : tDNewK σ H Q := h
/-! ### comprehensions that change nothing that stands -/
theorem range_bind {β γ : Type} (f : β → Option γ) : ∀ ys : List β, (List.range ys.length).filterMap (fun i => ys[i]?.bind f) = ys.filterMap f := by
  intro ys
  induction ys with
  | nil => rfl
  | cons y ys ih =>
    rw [List.length_cons, List.range_succ_eq_map, List.filterMap_cons, List.filterMap_map, List.filterMap_cons]
    have e : ((fun i => (y :: ys)[i]?.bind f) ∘ Nat.succ) = fun i => ys[i]?.bind f := by
      funext i
      simp
    rw [e, ih]
    simp
theorem pr_up {α β : Type} {Rep : Hp → α → β → Prop} (up : ∀ B B' a b, Same B B' → Rep B a b → Rep B' a b) {B B' : Hp} (s : Same B B') {l : List α} {m : List β} (h : Paired (Rep B) l m) : Paired (Rep B') l m := Paired.mapP h fun a b q => up B B' a b s q
theorem y_lcRel {β : Type} {J : It} {n : Nat} {G : Hp → Prop} {Y : Nat → Hp → V → Hp → Prop} {tt : TT} {vs : List Nat} (Rep : Hp → V → β → Prop) (up : ∀ B B' v b, Same B B' → Rep B v b → Rep B' v b) (w : Walk J n G Y) (S : Sy e B H L) (hn : n ≤ 100000) (spec : Nat → Option β)
    (hG : ∀ B1 H1 D acc, Same B B1 → Sy e B1 H1 ((D, .lst acc) :: L) → G H1)
    (hs : ∀ i x B1 H1 H1' acc D (Kp : VK) (Kn : Hp → Prop), i < n → Same B B1 → Sy e B1 H1 ((D, .lst acc) :: L) → Y i H1 x H1' → (∀ y b B4 H4, spec i = some b → Same B1 B4 → Rep B4 y b → Sy e B4 H4 ((D, .lst acc) :: L) → Kp y H4) →
      (∀ B4 H4, spec i = none → Same B1 B4 → Sy e B4 H4 ((D, .lst acc) :: L) → Kn H4) → g x (wipe σ vs) H1' fun σ2 H2 => wipe σ2 vs = wipe σ vs ∧ tt σ2 H2 fun b H3 => if b = true then te σ2 H3 Kp else Kn H3)
    (hd : ∀ B1 H1 acc D, Same B B1 → e.H D = none → Paired (Rep B1) acc ((List.range n).filterMap spec) → Sy e B1 H1 ((D, .lst acc) :: L) → Q (.ref D) H1) : LcG J g tt te vs σ Q H := by
  have hsnoc : ∀ i, (List.range (i + 1)).filterMap spec = (List.range i).filterMap spec ++ (spec i).toList := fun i => by
    rw [List.range_succ, List.filterMap_append]
    cases q : spec i <;> simp [q]
  refine y_lcG w S (fun i B1 acc L1 => L1 = L ∧ i ≤ n ∧ acc.length ≤ i ∧ Paired (Rep B1) acc ((List.range i).filterMap spec)) ⟨rfl, Nat.zero_le _, Nat.le_refl _, .nil⟩ ?_ ?_ ?_
  · rintro i B1 H1 acc L1 D ⟨rfl, _, _, _⟩ b1 S1
    exact hG B1 H1 D acc b1 S1
  · rintro i x B1 H1 H1' acc L1 D Kp Kn hi ⟨rfl, _, hl, hp⟩ b1 hD S1 hy kp kn
    refine hs i x B1 H1 H1' acc D Kp Kn hi b1 S1 hy (fun y b B4 H4 e1 b4 r S4 => ?_) (fun B4 H4 e1 b4 S4 => ?_)
    · refine kp y H4 ⟨B4, acc, L1, S4, b1.trans b4, Nat.lt_of_le_of_lt (Nat.le_trans hl (Nat.le_of_lt (Nat.lt_of_lt_of_le hi hn))) (by rw [sizeLine_eq]; decide), rfl, hi, by simp; omega, ?_⟩
      rw [hsnoc, e1]
      exact Paired.snoc (pr_up up b4 hp) r
    · refine kn H4 ⟨B4, acc, L1, S4, b1.trans b4, rfl, hi, by omega, ?_⟩
      rw [hsnoc, e1]
      simpa using pr_up up b4 hp
  · rintro B1 H1 acc L1 D ⟨rfl, _, hl, hp⟩ b1 hD S1
    exact hd B1 H1 acc D b1 hD hp S1
theorem eq_up : ∀ (B B' : Hp) (v b : V), Same B B' → v = b → v = b := fun _ _ _ _ _ h => h
theorem pr_eq : ∀ {l m : List V}, Paired (fun v b => v = b) l m → l = m
  | _, _, .nil => rfl
  | _, _, .cons h t => by rw [h, pr_eq t]
theorem y_yes {QT : Bool → Hp → Prop} (h : QT true H) : tYes σ H QT := h
theorem fm_some {α β : Type} (f : α → β) : ∀ l : List α, l.filterMap (fun i => some (f i)) = l.map f
  | [] => rfl
  | a :: l => by rw [List.filterMap_cons, List.map_cons, fm_some f l]
theorem fm_if {α : Type} (p : α → Bool) : ∀ l : List α, l.filterMap (fun r => if p r = true then some r else none) = l.filter p
  | [] => rfl
  | a :: l => by
    rw [List.filterMap_cons, List.filter_cons, fm_if p l]
    by_cases h : p a = true
    · rw [if_pos h, if_pos h]
    · rw [if_neg h, if_neg h]
theorem snoc_cases {α : Type} (l : List α) : l = [] ∨ ∃ m x, l = m ++ [x] := by
  by_cases h : l = []
  · exact .inl h
  · exact .inr ⟨l.dropLast, l.getLast h, (List.dropLast_concat_getLast h).symm⟩
end
end Y
/-! Bags, rows of a chain, tables of places: how they stand in the heap. -/
namespace Y
open PySem PySem.Spec PyProof.Rows L2
theorem lenOk {n : Nat} (h : n ≤ 100000) : n ≤ sizeLine := by rw [sizeLine_eq]; omega
theorem lenLt {n : Nat} (h : n < 100000) : n < sizeLine := by rw [sizeLine_eq]; omega

/-! ### lists, pairwise -/
section
variable {α β : Type} {F G : α → β → Prop}
theorem pr_get : ∀ {l : List α} {m : List β} {i : Nat} {b : β}, Paired F l m → m[i]? = some b → ∃ a, l[i]? = some a ∧ F a b
  | _, _, _, _, .nil, e => by simp at e
  | _, _, 0, _, .cons r _, e => by simp at e; subst e; exact ⟨_, rfl, r⟩
  | _, _, i + 1, b, .cons _ t, e => by
    obtain ⟨a, h1, h2⟩ := pr_get (i := i) (b := b) t (by simpa using e)
    exact ⟨a, by simpa using h1, h2⟩
theorem pr_getL : ∀ {l : List α} {m : List β} {i : Nat} {a : α}, Paired F l m → l[i]? = some a → ∃ b, m[i]? = some b ∧ F a b
  | _, _, _, _, .nil, e => by simp at e
  | _, _, 0, _, .cons r _, e => by simp at e; subst e; exact ⟨_, rfl, r⟩
  | _, _, i + 1, a, .cons _ t, e => by
    obtain ⟨b, h1, h2⟩ := pr_getL (i := i) (a := a) t (by simpa using e)
    exact ⟨b, by simpa using h1, h2⟩
theorem pr_app : ∀ {l : List α} {m : List β} {l' : List α} {m' : List β}, Paired F l m → Paired F l' m' → Paired F (l ++ l') (m ++ m')
  | _, _, _, _, .nil, h => h
  | _, _, _, _, .cons r t, h => .cons r (pr_app t h)
end

theorem atI_of {α : Type} {xs : List α} {i : Int} {v : α} (h0 : 0 ≤ i) (h : xs[i.toNat]? = some v) : atI xs i = some v := by
  obtain ⟨n, rfl⟩ := Int.eq_ofNat_of_zero_le h0
  exact atI_nat h
/-! ### bags -/
/-- a bag: its counter may still rise n times -/
def Bag (n : Nat) (o : HO) : Prop := ∃ x y z : Int, o = .lst [.int x, .int y, .int z] ∧ 0 ≤ y ∧ y < 2 ^ 200 ∧ 0 ≤ z ∧ z + n ≤ 2 ^ 100
theorem Bag.mono {n m : Nat} {o : HO} (h : Bag n o) (l : m ≤ n) : Bag m o := by
  obtain ⟨x, y, z, h1, h2, h3, h4, h5⟩ := h
  exact ⟨x, y, z, h1, h2, h3, h4, by omega⟩
def φ_draw : Ph := fun B vs L k => ∃ b o many n, vs = [.ref b, .int many] ∧ L = [(b, o)] ∧ Bag (n + 1) o ∧ 0 < many ∧ many < 2 ^ 100 ∧ ∀ i o', 0 ≤ i → i < many → Bag n o' → k B (.int i) [(b, o')]
theorem y_draw {e : En} {B H : Hp} {R : Led} {b : Addr} {o : HO} {n : Nat} {many : Int} {Q : VK} {E : XK} (S : Sy e B H ((b, o) :: R)) (hb : Bag (n + 1) o) (h0 : 0 < many) (h1 : many < 2 ^ 100)
    (k : ∀ i o' H', 0 ≤ i → i < many → Bag n o' → Sy e B H' ((b, o') :: R) → Q (.int i) H') : spY φ_draw [.ref b, .int many] H Q E :=
  y_sp1 S ⟨b, o, many, n, rfl, rfl, hb, h0, h1, fun i o' a1 a2 a3 H' T => k i o' H' a1 a2 a3 (S.back1 T)⟩
def φ_cell (K : PySem.W.Frag) : Ph := fun B vs L k => ∃ (a : Addr) (ns : List Int) (i : Int), vs = [.ref a, .int i] ∧ L = [] ∧ SqL K B a (ns.map V.int) ∧ 0 ≤ i ∧ ∀ c, k B (.int c) []
def φ_bag : Ph := fun B vs L k => ∃ (c p : Int), vs = [.int c, .int p] ∧ L = [] ∧ 0 ≤ p ∧ p ≤ 1000 ∧ ∀ b o, Bag 1000000 o → k B (.ref b) [(b, o)]

section
variable {K : PySem.W.Frag} {e : En} {B H : Hp} {L : Led} {Q : VK} {E : XK} {a : Addr}
theorem y_cell {ns : List Int} {i : Int} (S : Sy e B H L) (hq : SqL K B a (ns.map V.int)) (h0 : 0 ≤ i) (k : ∀ c H', Sy e B H' L → Q (.int c) H') : spY (φ_cell K) [.ref a, .int i] H Q E :=
  y_sp0 S ⟨a, ns, i, rfl, rfl, hq, h0, fun c H' T => k c H' (S.back0 T)⟩
theorem y_bag {c p : Int} (S : Sy e B H L) (h0 : 0 ≤ p) (h1 : p ≤ 1000) (k : ∀ b o H', e.H b = none → Bag 1000000 o → Sy e B H' ((b, o) :: L) → Q (.ref b) H') : spY φ_bag [.int c, .int p] H Q E :=
  y_sp0 S ⟨c, p, rfl, rfl, h0, h1, fun b o hb H' T => k b o H' (S.backN0 T).1 hb (S.backN0 T).2⟩
end

/-! ### rows -/
/-- a version: its number, its dealing, its worth -/
abbrev Ver := Int × Int × Option Int
def wV : Option Int → V
  | none => .non
  | some i => .int i
def rowV (r : Ver) : List V := [.int r.1, .int r.2.1, wV r.2.2]
def RowAt (K : PySem.W.Frag) (B : Hp) (v : V) (r : Ver) : Prop := ∃ a, v = .ref a ∧ SqT K B a (rowV r)
abbrev RowsAt (K : PySem.W.Frag) (B : Hp) (vs : List V) (rs : List Ver) : Prop := Paired (RowAt K B) vs rs
section
variable {K : PySem.W.Frag} {B B' : Hp} {v : V} {vs : List V} {r : Ver} {rs : List Ver}
theorem RowAt.up (s : Same B B') (h : RowAt K B v r) : RowAt K B' v r := by
  obtain ⟨a, h1, h2⟩ := h
  exact ⟨a, h1, up_t s h2⟩
theorem RowsAt.up (s : Same B B') (h : RowsAt K B vs rs) : RowsAt K B' vs rs := Paired.mapP h fun _ _ q => RowAt.up s q
def wD : Option Int → PyData
  | none => .none
  | some i => .int i
def rowD (r : Ver) : PyData := .tuple [.int r.1, .int r.2.1, wD r.2.2]
theorem dp_w (w : Option Int) {H : Hp} : Dp K H (wV w) (wD w) := by cases w <;> constructor
theorem RowAt.dp (h : RowAt K B v r) : Dp K B v (rowD r) := by
  obtain ⟨a, rfl, h2⟩ := h
  exact .tup h2 (.cons (.int _) (.cons (.int _) (.cons (dp_w _) .nil)))
theorem RowsAt.dps : ∀ {vs : List V} {rs : List Ver}, RowsAt K B vs rs → DpAll K B vs (rs.map rowD)
  | _, _, .nil => .nil
  | _, _, .cons r t => .cons (RowAt.dp r) (RowsAt.dps t)
end

/-! ### tables of places -/
abbrev Tab := List (Int × Int)
def enc (p : Int × Int) : Key × V := (.inl p.1, .int p.2)
def look (t : Tab) (k : Int) : Option Int := (t.find? fun p => decide (p.1 = k)).map (·.2)
theorem look_nil {k : Int} : look [] k = none := rfl
theorem look_cons {p : Int × Int} {t : Tab} {k : Int} : look (p :: t) k = if p.1 = k then some p.2 else look t k := by
  unfold look
  rw [List.find?_cons]
  by_cases h : p.1 = k
  · simp [h]
  · simp [h]
theorem valV_enc (k : Int) : ∀ t : Tab, valV (t.map enc) (.inl k) = (look t k).map V.int
  | [] => rfl
  | p :: t => by
    rw [List.map_cons, look_cons]
    by_cases h : p.1 = k
    · rw [valV_pos (show (enc p).1 = .inl k by unfold enc; rw [h]), if_pos h]; rfl
    · rw [valV_neg (show ¬ (enc p).1 = .inl k from fun z => h (Sum.inl.inj z)), if_neg h]
      exact valV_enc k t
theorem look_none {k : Int} : ∀ {t : Tab}, look t k = none ↔ k ∉ t.map (·.1)
  | [] => by simp [look]
  | p :: t => by
    rw [look_cons, List.map_cons, List.mem_cons]
    by_cases h : p.1 = k
    · rw [if_pos h]; simp [h]
    · rw [if_neg h, look_none (t := t)]
      constructor
      · rintro q (z | z)
        · exact h z.symm
        · exact q z
      · exact fun q z => q (.inr z)
theorem put_enc {t : Tab} {k v : Int} (h : k ∉ t.map (·.1)) : putK (t.map enc) (.inl k) (.int v) = (t ++ [(k, v)]).map enc := by
  rw [putK_new _ (by rw [valV_enc, look_none.mpr h]; rfl), List.map_append]
  rfl
theorem look_mem {k v : Int} : ∀ {t : Tab}, look t k = some v → (k, v) ∈ t
  | [], h => by simp [look] at h
  | p :: t, h => by
    rw [look_cons] at h
    by_cases e : p.1 = k
    · rw [if_pos e] at h
      cases h
      rw [← e]
      exact List.mem_cons_self
    · rw [if_neg e] at h
      exact List.mem_cons_of_mem _ (look_mem h)
theorem mem_look {k v : Int} : ∀ {t : Tab}, (t.map (·.1)).Nodup → (k, v) ∈ t → look t k = some v
  | [], _, h => by cases h
  | p :: t, nd, h => by
    rw [List.map_cons] at nd
    obtain ⟨h1, h2⟩ := List.nodup_cons.mp nd
    rw [look_cons]
    rcases List.mem_cons.mp h with rfl | h
    · rw [if_pos rfl]
    · have e : ¬ p.1 = k := fun z => h1 (by rw [z]; exact List.mem_map.mpr ⟨(k, v), h, rfl⟩)
      rw [if_neg e]
      exact mem_look h2 h
/-- keys unlike, from 1 to m; places unlike, from 1 to n -/
structure TabOk (m n : Int) (t : Tab) : Prop where
  nk : (t.map (·.1)).Nodup
  nv : (t.map (·.2)).Nodup
  kb : ∀ p ∈ t, 1 ≤ p.1 ∧ p.1 ≤ m
  vb : ∀ p ∈ t, 1 ≤ p.2 ∧ p.2 ≤ n
theorem TabOk.nil {m n : Int} : TabOk m n [] := ⟨by simp, by simp, fun p h => (by cases h), fun p h => (by cases h)⟩
theorem TabOk.snoc {m n n' k v : Int} {t : Tab} (h : TabOk m n t) (h1 : k ∉ t.map (·.1)) (h2 : 1 ≤ k) (h3 : k ≤ m) (h4 : n < v) (h5 : v ≤ n') (h0 : 0 ≤ n) : TabOk m n' (t ++ [(k, v)]) := by
  refine ⟨?_, ?_, fun p hp => ?_, fun p hp => ?_⟩
  · rw [List.map_append]
    refine List.nodup_append.mpr ⟨h.nk, by simp, fun a ha b hb hab => ?_⟩
    have : b = k := by simpa using hb
    subst this hab
    exact h1 ha
  · rw [List.map_append]
    refine List.nodup_append.mpr ⟨h.nv, by simp, fun a ha b hb hab => ?_⟩
    have : b = v := by simpa using hb
    subst this hab
    obtain ⟨p, hp, e⟩ := List.mem_map.mp ha
    have := (h.vb p hp).2
    rw [show p.2 = a from e] at this
    omega
  · rcases List.mem_append.mp hp with hp | hp
    · exact h.kb p hp
    · have : p = (k, v) := by simpa using hp
      subst this
      exact ⟨h2, h3⟩
  · rcases List.mem_append.mp hp with hp | hp
    · have := h.vb p hp
      exact ⟨this.1, by omega⟩
    · have : p = (k, v) := by simpa using hp
      subst this
      exact ⟨by show 1 ≤ v; omega, h5⟩
/-- a chain as drawn: numbers rising, from 1 on, dealings from 1 to m -/
structure ChOk (m last : Int) (rs : List Ver) : Prop where
  up : (rs.map (·.1)).Pairwise (· < ·)
  nb : ∀ r ∈ rs, 1 ≤ r.1 ∧ r.1 ≤ last
  db : ∀ r ∈ rs, 1 ≤ r.2.1 ∧ r.2.1 ≤ m
theorem ChOk.nil {m last : Int} : ChOk m last [] := ⟨by simp, fun r h => (by cases h), fun r h => (by cases h)⟩
theorem ChOk.snoc {m l l' : Int} {rs : List Ver} {r : Ver} (h : ChOk m l rs) (h1 : l < r.1) (h2 : r.1 ≤ l') (h3 : 1 ≤ r.2.1) (h4 : r.2.1 ≤ m) (h0 : 0 ≤ l) : ChOk m l' (rs ++ [r]) := by
  refine ⟨?_, fun q hq => ?_, fun q hq => ?_⟩
  · rw [List.map_append, List.pairwise_append]
    refine ⟨h.up, by simp, fun a ha b hb => ?_⟩
    obtain ⟨q, hq, e⟩ := List.mem_map.mp ha
    have e2 : b = r.1 := by simpa using hb
    have := (h.nb q hq).2
    rw [show q.1 = a from e] at this
    omega
  · rcases List.mem_append.mp hq with hq | hq
    · have := h.nb q hq
      exact ⟨this.1, by omega⟩
    · have : q = r := by simpa using hq
      subst this
      exact ⟨by omega, h2⟩
  · rcases List.mem_append.mp hq with hq | hq
    · exact h.db q hq
    · have : q = r := by simpa using hq
      subst this
      exact ⟨h3, h4⟩
theorem nodup_erase {α : Type} : ∀ {l : List α} {j : Nat} {x : α}, l.Nodup → l[j]? = some x → (l.eraseIdx j).Nodup ∧ x ∉ l.eraseIdx j ∧ ∀ y ∈ l.eraseIdx j, y ∈ l
  | [], _, _, _, h => by simp at h
  | a :: l, 0, x, nd, h => by
    simp at h
    subst h
    obtain ⟨h1, h2⟩ := List.nodup_cons.mp nd
    exact ⟨h2, h1, fun y hy => List.mem_cons_of_mem _ hy⟩
  | a :: l, j + 1, x, nd, h => by
    obtain ⟨h1, h2⟩ := List.nodup_cons.mp nd
    obtain ⟨q1, q2, q3⟩ := nodup_erase (j := j) (x := x) h2 (by simpa using h)
    rw [List.eraseIdx_cons_succ]
    refine ⟨List.nodup_cons.mpr ⟨fun z => h1 (q3 _ z), q1⟩, fun z => ?_, fun y hy => ?_⟩
    · rcases List.mem_cons.mp z with z | z
      · subst z
        exact h1 (List.mem_of_getElem? (show l[j]? = some x by simpa using h))
      · exact q2 z
    · rcases List.mem_cons.mp hy with rfl | hy
      · exact List.mem_cons_self
      · exact List.mem_cons_of_mem _ (q3 y hy)
theorem map_erase {α β : Type} (f : α → β) : ∀ (l : List α) (j : Nat), (l.map f).eraseIdx j = (l.eraseIdx j).map f
  | [], _ => rfl
  | _ :: _, 0 => rfl
  | a :: l, j + 1 => by rw [List.map_cons, List.eraseIdx_cons_succ, List.eraseIdx_cons_succ, List.map_cons, map_erase f l j]
end Y
/-! dict(..), sorted(..), locks, calls by names alone. -/
namespace Y
open PySem PySem.Spec PyProof.Rows L2
section
variable {X : Cx} {K : PySem.W.Frag} {σ : L2.St} {e : En} {B H : Hp} {L : Led} {Q : VK} {te : TE} {v x y : V} {xs ys : List V} {a b d p : Addr} {o : HO}

/-! ### dict(ps), dict(d) -/
def rDictP (K : PySem.W.Frag) : List V → Hp → VK → Prop := fun xs H Q => ∃ (a : Addr) (ps : List Addr) (kvs : List (Key × V)), xs = [.ref a] ∧ SqL K H a (ps.map V.ref) ∧ Paired (fun p kv => SqT K H p [kV kv.1, kv.2]) ps kvs ∧ NewK (.dK (mergeK [] kvs)) Q H
def rDictD : List V → Hp → VK → Prop := fun xs H Q => ∃ (a : Addr) (kvs : List (Key × V)), xs = [.ref a] ∧ Rd H a (.dK kvs) ∧ NewK (.dK kvs) Q H
def rDictU (K : PySem.W.Frag) : List V → Hp → VK → Prop := fun xs H Q => rDictP K xs H Q ∨ rDictD xs H Q
theorem call_dictU (hK : X.K = K) (hc : X.calm = true) : CallR X (.type "dict") (rDictU K) := hK ▸ CallR.or (r := rDictP X.K) (r' := rDictD) (call_dictP hc) call_dictD
theorem y_dictD {kvs : List (Key × V)} (h : Rd H a (.dK kvs)) (q : NewK (.dK kvs) Q H) : rDictU K [.ref a] H Q := .inr ⟨a, kvs, rfl, h, q⟩
/-- a pair of ints -/
def PairAt (B : Hp) (v : V) (p : Int × Int) : Prop := ∃ t, v = .ref t ∧ B t = some (.tup [.int p.1, .int p.2])
theorem PairAt.up (B B' : Hp) (v : V) (p : Int × Int) (s : Same B B') (h : PairAt B v p) : PairAt B' v p := by
  obtain ⟨t, h1, h2⟩ := h
  exact ⟨t, h1, s t _ h2⟩
theorem merge_enc : ∀ (t t0 : Tab), ((t0 ++ t).map (·.1)).Nodup → mergeK (t0.map enc) (t.map enc) = (t0 ++ t).map enc
  | [], t0, _ => by rw [List.append_nil]; rfl
  | p :: t, t0, h => by
    have h1 : p.1 ∉ t0.map (·.1) := fun z => by
      rw [List.map_append, List.map_cons] at h
      exact (List.nodup_append.mp h).2.2 _ z _ List.mem_cons_self rfl
    have e1 : t0 ++ p :: t = (t0 ++ [p]) ++ t := by simp
    have ih := merge_enc t (t0 ++ [p]) (by rw [← e1]; exact h)
    show mergeK (putK (t0.map enc) (.inl p.1) (.int p.2)) (t.map enc) = _
    rw [put_enc h1, ih, e1]
/-- dict(ps) of pairs of ints with unlike first ones -/
theorem y_dictP (S : Sy e B H L) {t : Tab} (h : SqL K H a xs) (hp : Paired (PairAt B) xs t) (nd : (t.map (·.1)).Nodup) (q : NewK (.dK (t.map enc)) Q H) : rDictU K [.ref a] H Q := by
  have key : ∀ {xs : List V} {t : Tab}, Paired (PairAt B) xs t → ∃ ps : List Addr, xs = ps.map V.ref ∧ Paired (fun p kv => SqT K H p [kV kv.1, kv.2]) ps (t.map enc) := by
    intro xs t hp
    induction hp with
    | nil => exact ⟨[], rfl, .nil⟩
    | cons r _ ih =>
      obtain ⟨ps, e1, e2⟩ := ih
      obtain ⟨t, rfl, h2⟩ := r
      exact ⟨t :: ps, by rw [e1]; rfl, .cons (sqT (S.tup h2)) e2⟩
  obtain ⟨ps, rfl, h2⟩ := key hp
  refine .inl ⟨a, ps, t.map enc, rfl, h, h2, ?_⟩
  rw [show mergeK [] (t.map enc) = t.map enc from merge_enc t [] (by simpa using nd)]
  exact q

theorem snoc_ind {α : Type} {P : List α → Prop} (h0 : P []) (hs : ∀ l a, P l → P (l ++ [a])) (l : List α) : P l := by
  have all : ∀ m : List α, P m.reverse := fun m => by
    induction m with
    | nil => exact h0
    | cons a m ih => rw [List.reverse_cons]; exact hs _ _ ih
  rw [← List.reverse_reverse l]
  exact all _
theorem pr_snoc {α β : Type} {F : α → β → Prop} : ∀ {l : List α} {m : List β} {b : β}, Paired F l (m ++ [b]) → ∃ l' a, l = l' ++ [a] ∧ F a b
  | _, [], _, .cons r .nil => ⟨[], _, rfl, r⟩
  | _, _ :: m, b, .cons r h => by
    obtain ⟨l', a, e1, e2⟩ := pr_snoc (m := m) h
    exact ⟨_ :: l', a, by rw [e1]; rfl, e2⟩
/-! ### a table of places -/
theorem y_inTab (S : Sy e B H L) {t : Tab} {k : Int} (h : B d = some (.dK (t.map enc))) (q : Q (.bl (look t k).isSome) H) : rInU K (.int k) (.ref d) H Q :=
  y_inD (k := .inl k) (S.rd h) rfl (by rw [valV_enc, Option.isSome_map]; exact q)
theorem y_notInTab (S : Sy e B H L) {t : Tab} {k : Int} (h : B d = some (.dK (t.map enc))) (q : Q (.bl (!(look t k).isSome)) H) : rNotInU K (.int k) (.ref d) H Q :=
  y_notInD (k := .inl k) (S.rd h) rfl (by rw [valV_enc, Option.isSome_map]; exact q)
theorem y_ixTab (S : Sy e B H L) {t : Tab} {k z : Int} (h : B d = some (.dK (t.map enc))) (hz : look t k = some z) (q : Q (.int z) H) : rIxU K (.ref d) (.int k) H Q :=
  y_ixD (k := .inl k) (S.rd h) rfl (by rw [valV_enc, hz]; rfl) q
theorem y_inTabL {t : Tab} {k : Int} (h : Rd H d (.dK (t.map enc))) (q : Q (.bl (look t k).isSome) H) : rInU K (.int k) (.ref d) H Q :=
  y_inD (k := .inl k) h rfl (by rw [valV_enc, Option.isSome_map]; exact q)
theorem y_ixTabL {t : Tab} {k z : Int} (h : Rd H d (.dK (t.map enc))) (hz : look t k = some z) (q : Q (.int z) H) : rIxU K (.ref d) (.int k) H Q :=
  y_ixD (k := .inl k) h rfl (by rw [valV_enc, hz]; rfl) q

/-! ### sorted -/
def rSortU (K : PySem.W.Frag) : List V → Hp → VK → Prop := fun xs H Q => rSortedI K xs H Q ∨ rSortedPO K xs H Q
theorem call_sortedU (hK : X.K = K) : CallR X (.builtin "sorted") (rSortU K) := hK ▸ CallR.or cr_sortedI cr_sortedPO
theorem y_sortedI {ns : List Int} (h : SqL K H a (ns.map V.int)) (q : ∀ ns' : List Int, ns'.Perm ns → ns'.Pairwise (· ≤ ·) → NewK (.lst (ns'.map V.int)) Q H) : rSortU K [.ref a] H Q := .inl ⟨a, ns, rfl, h, fun ns' p h1 h2 hp => q ns' h1 h2 p hp⟩
/-- by the first, then by the second -/
def LexLe (p q : Int × Int) : Prop := p.1 < q.1 ∨ (p.1 = q.1 ∧ p.2 ≤ q.2)
def pairOf (H : Hp) (x : V) : Int × Int := match x with
  | .ref t => (match H t with
    | some (.tup [.int i, .int j]) => (i, j)
    | _ => (0, 0))
  | _ => (0, 0)
theorem pairOf_eq {t : Addr} {i j : Int} (h : H t = some (.tup [.int i, .int j])) : pairOf H (.ref t) = (i, j) := by
  simp only [pairOf, h]
theorem pairs_of {B H : Hp} (sb : Sub B H) : ∀ {xs : List V} {ps : List (Int × Int)}, Paired (PairAt B) xs ps → ps = xs.map (pairOf H) ∧ (∀ x ∈ xs, ∃ t, x = V.ref t ∧ B t = some (.tup [.int (pairOf H x).1, .int (pairOf H x).2]))
  | _, _, .nil => ⟨rfl, fun x h => by cases h⟩
  | _, _, .cons (b := p) r h => by
    obtain ⟨t, rfl, h2⟩ := r
    obtain ⟨e1, e2⟩ := pairs_of sb h
    have e3 : pairOf H (.ref t) = p := pairOf_eq (sb.tup h2)
    refine ⟨by rw [List.map_cons, e3, e1], fun x hx => ?_⟩
    rcases List.mem_cons.mp hx with rfl | hx
    · exact ⟨t, rfl, by rw [e3]; exact h2⟩
    · exact e2 x hx
theorem paired_map {α β : Type} {F : α → β → Prop} (f : α → β) : ∀ {l : List α}, (∀ x ∈ l, F x (f x)) → Paired F l (l.map f)
  | [], _ => .nil
  | x :: l, h => .cons (h x List.mem_cons_self) (paired_map f fun y hy => h y (List.mem_cons_of_mem _ hy))
/-- sorted(ps), ps pairs of ints -/
theorem y_sortedP (S : Sy e B H L) {ps : List (Int × Int)} (h : SqL K H a xs) (hp : Paired (PairAt B) xs ps) (q : ∀ ys qs, Paired (PairAt B) ys qs → qs.Perm ps → qs.Pairwise LexLe → ys.length = xs.length → NewK (.lst ys) Q H) : rSortU K [.ref a] H Q := by
  obtain ⟨e1, e2⟩ := pairs_of S.bh hp
  refine .inr ⟨a, xs, pairOf H, rfl, h, fun x hx => ?_, fun ys p h1 h2 hn => ?_⟩
  · obtain ⟨t, h3, h4⟩ := e2 x hx
    exact ⟨t, h3, S.tup h4⟩
  · refine q ys (ys.map (pairOf H)) (paired_map _ fun x hx => ?_) ?_ ?_ h2.perm.length_eq p hn
    · exact e2 x (h2.perm.mem_iff.mp hx)
    · rw [e1]; exact h2.perm.map _
    · rw [List.pairwise_map]
      refine List.Pairwise.imp (fun {u w} z => ?_) h1
      have z2 := SrtO.lexB_no.mp z
      unfold LexLe
      omega

/-! ### sums, all, any of made lists -/
theorem cr_sumU (hK : X.K = K) (hc : X.calm = true) : CallR X (.builtin "sum") (rSum K) := hK ▸ cr_sum hc
theorem cr_allU (hK : X.K = K) (hc : X.calm = true) : CallR X (.builtin "all") (rAll K) := hK ▸ cr_all hc
theorem cr_anyU (hK : X.K = K) (hc : X.calm = true) : CallR X (.builtin "any") (rAny K) := hK ▸ cr_any hc
theorem y_sum {ns : List Int} (h : SqL K H a (ns.map V.int)) (q : Q (.int ns.sum) H) : rSum K [.ref a] H Q := ⟨a, ns, rfl, h, q⟩
theorem y_all {bs : List Bool} (h : SqL K H a (bs.map V.bl)) (q : Q (.bl (bs.all id)) H) : rAll K [.ref a] H Q := ⟨a, bs, rfl, h, q⟩
theorem y_any {bs : List Bool} (h : SqL K H a (bs.map V.bl)) (q : Q (.bl (bs.any id)) H) : rAny K [.ref a] H Q := ⟨a, bs, rfl, h, q⟩

/-! ### alike -/
theorem al_refs {n : Nat} : ∀ {ws : List V} {rs : List Ver}, RowsAt K B ws rs → Paired (Al K H (n + 1)) ws ws
  | _, _, .nil => .nil
  | _, _, .cons ⟨a, e, _⟩ h => .cons (.inr (.inl ⟨a, e, e⟩)) (al_refs h)
theorem al_list {n : Nat} {a b : Addr} (h1 : SqL K H a xs) (h2 : SqL K H b ys) (h : Paired (Al K H n) xs ys) : Al K H (n + 1) (.ref a) (.ref b) := .inr (.inr (.inl (.inl ⟨a, b, xs, ys, rfl, rfl, h1, h2, h⟩)))
theorem al_tab {n : Nat} {a b : Addr} {t : Tab} (h1 : H a = some (.dK (t.map enc))) (h2 : H b = some (.dK (t.map enc))) (nd : (t.map (·.1)).Nodup) : Al K H (n + 2) (.ref a) (.ref b) := by
  refine .inr (.inr (.inl (.inr ⟨a, b, _, _, rfl, rfl, h1, h2, rfl, fun p hp => ?_⟩)))
  obtain ⟨q, hq, rfl⟩ := List.mem_map.mp hp
  refine ⟨.int q.2, ?_, .inl ⟨rfl, rfl⟩⟩
  show valV (t.map enc) (.inl q.1) = _
  rw [valV_enc, mem_look nd hq]
  rfl
/-! ### locks -/
/-- behind a locked expression -/
def LockK (d : Addr) (od : Obj) (u : HO) (Q : VK) : VK := fun v H' => H' d = some (.frz od u) ∧ Q v (upd H' d u)
theorem y_lockE (S : Sy e B H L) {kvs : List (Key × V)} (hB : B d = some (.dK kvs)) (hH : H d = some (.dK kvs))
    (k : ∀ od H1, H1 d = some (.frz od (.dK kvs)) → Sy { e with Z := (d, od, .dK kvs) :: e.Z } B H1 L → te σ H1 (LockK d od (.dK kvs) Q)) : tLockE te σ H Q :=
  ⟨d, .dK kvs, hH, trivial, fun od => k od _ upd_same (S.lock hB trivial hH)⟩
theorem y_lockK (S : Sy e B H L) {kvs : List (Key × V)} {B' H' : Hp} {L' : Led} {od : Obj} (hB : B d = some (.dK kvs)) (hH : H d = some (.dK kvs)) (b : Same B B') (T : Sy { e with Z := (d, od, .dK kvs) :: e.Z } B' H' L') (k : ∀ H2, Sy e B' H2 L' → Q v H2) : LockK d od (.dK kvs) Q v H' := by
  obtain ⟨h1, h2⟩ := S.unlock hB trivial hH b T
  exact ⟨h1, k _ h2⟩
/-- a dict that was laid since the entry is locked -/
theorem y_lockX (hz : e.Z = []) (S : Sy e B H L) {kvs : List (Key × V)} (hB : B d = some (.dK kvs)) (hn : e.H d = none)
    (k : ∀ od H1 e1 (Q' : VK), e1.H = e.H → H1 d = some (.frz od (.dK kvs)) → Sy e1 B H1 L → (∀ B' H' L', Sy e1 B' H' L' → H' d = some (.frz od (.dK kvs))) → (∀ v B' H' L', Same B B' → Sy e1 B' H' L' → (∀ H2, Sy e B' H2 L' → Q v H2) → Q' v H') → te σ H1 Q') : tLockE te σ H Q := by
  have hH := S.dk hB trivial hn hz
  exact y_lockE S hB hH fun od H1 h1 S1 => k od H1 { e with Z := (d, od, .dK kvs) :: e.Z } _ rfl h1 S1 (fun B' H' L' T => T.zin (d, od, .dK kvs) List.mem_cons_self) fun v B' H' L' b T q => y_lockK S hB hH b T q
end
/-! ### a call by names alone -/
section
variable {X : Cx} {k : Nat} {x : Str} {ps : List Str} {sp : Sp} {p pos : Pos} {tk : TA} {ks : List Str} {gV : List V → List V → List V} {kws : List Keyword}
theorem pe_callON0 (O : OkN X.prog X.w X.K X.mg X.base k x ps 0 ks gV sp) (hr : Room k X.A) (hg : Gl X x) (hkw : PK X kws tk) (hall : (backToKw pos (keywordEach kws X.env)).all (·.1.isSome) = true := by rfl) (hks : (backToKw pos (keywordEach kws X.env)).filterMap (·.1) = ks := by rfl)
    (hdb : (x == ("__debug__" : Str)) = false := by decide) (hpl : ((backTo pos (starEach [] X.env)).any (·.1) || (backToKw pos (keywordEach kws X.env)).any (·.1.isNone)) = false := by rfl) :
    PE X (.Call (.Name x p) [] kws pos) (tCallN 0 ks.length sp gV E0 tNil tk) := by
  obtain ⟨f, fd, g, h1, h2, h3, h4⟩ := O
  refine ⟨fun pins s σ H Q I h => ?_⟩
  refine wpAny_Call_Name_kw (ld_glob I hg h1 ?_ hdb)
  refine PySem.W.callWith_KW0 (h₀ := X.base) I.ok.mod.kin h2 hall ?_ hpl
  refine thn (hkw.run pos pins s σ H _ I h) fun ws s2 ⟨zs, H2, I2, rz, l1, l2, q2⟩ => ⟨I2.kIn, ?_⟩
  rw [hks]
  exact run_fnN h4 hr h3 pass0 I2 .nil rz l1 l2 q2
end
section
variable {σ : L2.St} {H : Hp} {Q : VK} {n m : Nat} {sp : Sp} {gV : List V → List V → List V} {E : XK} {t tk : TA} {vs zs : List V}
/-- the values of a call with names -/
def CallNK (n m : Nat) (sp : Sp) (gV : List V → List V → List V) (E : XK) (Q : VK) (vs zs : List V) (H : Hp) : Prop := vs.length = n ∧ zs.length = m ∧ sp (gV vs zs) H Q E
theorem y_callN (h : t σ H fun vs H1 => tk σ H1 fun zs H2 => CallNK n m sp gV E Q vs zs H2) : tCallN n m sp gV E t tk σ H Q := h
theorem y_callNK (h1 : vs.length = n) (h2 : zs.length = m) (h : sp (gV vs zs) H Q E) : CallNK n m sp gV E Q vs zs H := ⟨h1, h2, h⟩
end
/-! ### a version or None -/
/-- a version or None -/
def OptAt (K : PySem.W.Frag) (B : Hp) (v : V) : Option Ver → Prop
  | none => v = .non
  | some r => RowAt K B v r
theorem OptAt.up {K : PySem.W.Frag} {B B' : Hp} {v : V} {o : Option Ver} (s : Same B B') (h : OptAt K B v o) : OptAt K B' v o := by
  cases o with
  | none => exact h
  | some r => exact RowAt.up s h
def optD : Option Ver → PyData
  | none => .none
  | some r => rowD r
theorem OptAt.dp {K : PySem.W.Frag} {B : Hp} {v : V} {o : Option Ver} (h : OptAt K B v o) : ∃ dd, Dp K B v dd ∧ SeqAt.shaped dd = true ∧ PyData.eqv dd dd = true ∧ dd = optD o := by
  cases o with
  | none =>
    have h : v = .non := h
    subst h
    exact ⟨.none, .non, rfl, rfl, rfl⟩
  | some r =>
    refine ⟨rowD r, RowAt.dp h, ?_, ?_, rfl⟩
    · obtain ⟨a, b, c⟩ := r
      cases c <;> rfl
    · obtain ⟨a, b, c⟩ := r
      cases c <;> simp [rowD, wD, PyData.eqv, PyData.eqvAll]
theorem y_eqOpt {K : PySem.W.Frag} {e : En} {B H : Hp} {L : Led} {Q : VK} {v u : V} {o : Option Ver} (S : Sy e B H L) (h1 : OptAt K B v o) (h2 : OptAt K B u o) (q : Q (.bl true) H) : rEqU K v u H Q := by
  obtain ⟨d1, a1, a2, a3, a4⟩ := h1.dp
  obtain ⟨d2, b1, b2, b3, b4⟩ := h2.dp
  have e : d1 = d2 := a4.trans b4.symm
  subst e
  exact y_eqD (S.d a1) (S.d b1) a2 a2 (by rw [a3]; exact q)
theorem y_neOpt {K : PySem.W.Frag} {e : En} {B H : Hp} {L : Led} {Q : VK} {v u : V} {o : Option Ver} (S : Sy e B H L) (h1 : OptAt K B v o) (h2 : OptAt K B u o) (q : Q (.bl false) H) : rNeU K v u H Q := by
  obtain ⟨d1, a1, a2, a3, a4⟩ := h1.dp
  obtain ⟨d2, b1, b2, b3, b4⟩ := h2.dp
  have e : d1 = d2 := a4.trans b4.symm
  subst e
  exact y_neD (S.d a1) (S.d b1) a2 a2 (by rw [a3]; exact q)
/-! ### the law's own promise -/
def φ_law (K : PySem.W.Frag) : Ph := fun B vs L k => ∃ (a : Addr) (ns : List Int), vs = [.ref a] ∧ L = [] ∧ SqL K B a (ns.map V.int) ∧ ns.length ≤ 63 ∧ ∀ B', Same B B' → k B' (.bl true) []
end Y
/-! max(d.values(), default=c), the values ints. -/
namespace Y
open PySem PySem.Spec PyProof.Rows L2
/-- the best of the first j + 1 -/
theorem best_of {bt : Nat → Nat → Bool} {f : Nat → Int} (h : ∀ i j, bt i j = decide (f j < f i)) : ∀ j, PySem.argBest bt j ≤ j ∧ ∀ i, i ≤ j → f i ≤ f (PySem.argBest bt j)
  | 0 => ⟨Nat.le_refl _, fun i hi => by rw [show i = 0 by omega]; exact Int.le_refl _⟩
  | j + 1 => by
    obtain ⟨h1, h2⟩ := best_of h j
    unfold argBest
    rw [h]
    by_cases c : f (PySem.argBest bt j) < f (j + 1)
    · rw [decide_eq_true c, if_pos rfl]
      refine ⟨Nat.le_refl _, fun i hi => ?_⟩
      rcases Nat.lt_or_ge i (j + 1) with z | z
      · exact Int.le_trans (h2 i (by omega)) (Int.le_of_lt c)
      · rw [show i = j + 1 by omega]; exact Int.le_refl _
    · rw [decide_eq_false c, if_neg (by decide)]
      refine ⟨by omega, fun i hi => ?_⟩
      rcases Nat.lt_or_ge i (j + 1) with z | z
      · exact h2 i (by omega)
      · rw [show i = j + 1 by omega]; omega
section
variable {prog : Program} {w : World} {A : Around} {E : Value → Shared → Prop} {s : Shared} {Q : Value → Shared → Prop}
theorem max_view {v d : Addr} {vs : List (Key × Value)} {ep : Nat} {ns : List Int} {c : Value} (hh : A.handled = none) (hv : s.heap.IsValuesView v d) (dat : s.heap.DictAt (mixKind prog w) d vs ep)
    (val : ∀ (i : Nat) (k : Key) (u : Value), vs[i]? = some (k, u) → ∃ t, u = Value.int (ns.getD i 0) t) (hl : ns.length = vs.length)
    (q0 : ns = [] → ∀ h' tk, (∀ b o, s.heap.get? b = some o → h'.get? b = some o) → Q c { s with heap := h', toks := tk })
    (q1 : ∀ (i : Nat) (t : Tok) (h' : Heap) (tk : Nat), i < ns.length → (∀ j, j < ns.length → ns.getD j 0 ≤ ns.getD i 0) → (∀ b o, s.heap.get? b = some o → h'.get? b = some o) → Q (.int (ns.getD i 0) t) { s with heap := h', toks := tk }) :
    wpAny (model prog w) A (call (.builtin "max") [.ref v] [(Str.ofString "default", c)]) Q E s := by
  have hlt : d < s.heap.objs.size := by obtain ⟨o, es, ho, _⟩ := dat; exact Heap.lt_size ho
  refine PySem.call_max_walkD ?_
  refine wpAny_pyIter_values (d := d) (knd := mixKind prog w) hv dat ?_
  have mv : ∀ s', Moved [s.heap.objs.size] (fun a b => b = a) { s with heap := s.heap.push { cls := .type "dict_valueiterator", data := .fields #[.ref d, .int 0 0, .int vs.length 0, .int ep 0] } } s' → ∃ h' tk, s' = { s with heap := h', toks := tk } ∧ ∀ b o, s.heap.get? b = some o → h'.get? b = some o := fun s' m => by
    refine ⟨s'.heap, s'.toks, ?_, fun b o e => m.heap b o (fun hb => absurd (Heap.lt_size e) (by rw [List.mem_singleton.mp hb]; exact Nat.lt_irrefl _)) (Heap.get?_push_of_some _ e)⟩
    obtain ⟨h1, g1, d1, t1, o1⟩ := s'
    have e1 : g1 = s.gens := m.gens
    have e2 : d1 = s.drawn := m.drawn
    have e3 : o1 = s.os := m.os
    subst e1 e2 e3
    rfl
  refine ⟨_, _, _, _, _, _, _, s.heap, fun i j => decide (ns.getD j 0 < ns.getD i 0), rfl, (Walks.dictValues (A := A.in1) (knd := mixKind prog w) hh s.heap.objs.size d (Nat.ne_of_lt hlt) vs ep).toS, ?_, ?_, ?_, ?_, ?_, ?_⟩
  · exact ⟨⟨_, Heap.get?_push_size _ rfl, rfl, rfl⟩, dat.at' fun o e => Heap.get?_push_of_some _ e⟩
  · intro b hb
    show b < (s.heap.push _).objs.size
    rw [Heap.size_push]
    rcases List.mem_cons.mp hb with rfl | hb
    · exact Nat.lt_succ_self _
    · rw [List.mem_singleton.mp hb]
      exact Nat.lt_succ_of_lt hlt
  · intro b o e hb
    exact absurd (Heap.lt_size e) (by rw [List.mem_singleton.mp hb]; exact Nat.lt_irrefl _)
  · exact fun b o e => Heap.get?_push_of_some _ e
  · intro hn s' m
    obtain ⟨h', tk, rfl, hk⟩ := mv s' m
    exact q0 (List.eq_nil_of_length_eq_zero (by omega)) h' tk hk
  · intro hn
    refine ⟨fun i j vi vj s' Q' E' _ hi hj hq => ?_, fun u s' hP m => ?_⟩
    · obtain ⟨k1, e1⟩ := hi
      obtain ⟨k2, e2⟩ := hj
      obtain ⟨t1, rfl⟩ := val i k1 vi e1
      obtain ⟨t2, rfl⟩ := val j k2 vj e2
      exact gt_int hq
    · obtain ⟨h', tk, rfl, hk⟩ := mv s' m
      obtain ⟨k1, e1⟩ := hP
      obtain ⟨t1, rfl⟩ := val _ k1 u e1
      obtain ⟨b1, b2⟩ := best_of (bt := fun i j => decide (ns.getD j 0 < ns.getD i 0)) (f := fun i => ns.getD i 0) (fun _ _ => rfl) (vs.length - 1)
      exact q1 _ t1 h' tk (by omega) (fun j hj => b2 j (by omega)) hk
end
section
variable {X : Cx}
/-- the greatest of a dict's values, or c -/
def tMaxV (c : Int) (td : TE) : TE := fun σ H Q => td σ H fun x H1 => ∃ (d : Addr) (kvs : List (Key × V)) (ns : List Int), x = .ref d ∧ Rd H1 d (.dK kvs) ∧ kvs.map (·.2) = ns.map V.int ∧ (ns = [] → Q (.int c) H1) ∧ ∀ m ∈ ns, (∀ z ∈ ns, z ≤ m) → Q (.int m) H1
theorem pe_max_values {e : Expr} {td : TE} {p apos cpos kpos pos kp2 : Pos} {c : Int} {j : Nat} (hg : Gl X "max") (hc : X.calm = true) (hm : X.mg "max" = none) (he : PE X e td)
    (hbase : attributeBase e "values" X.env (eval e X.env) = eval e X.env := by rfl) (hline : (apos.endLine == cpos.line) = true := by rfl) (hu : X.A.units + 64 < cLine)
    (hst : backTo pos (starEach [.Call (.Attribute e "values" apos) [] [] cpos] X.env) = (false, eval (.Call (.Attribute e "values" apos) [] [] cpos) X.env) :: backTo pos (starEach [] X.env) := by rfl) :
    PE X (.Call (.Name "max" p) [.Call (.Attribute e "values" apos) [] [] cpos] [⟨some "default", .Constant (.int c) j kp2, kpos⟩] pos) (tMaxV c td) := by
  refine ⟨fun pins s σ H Q I h => ?_⟩
  refine wpAny_Call_Name_kw (ld_blt I hg hm (by decide +kernel : bootBuiltins "max" = some (.builtin "max")) ?_)
  refine PyProof.Rows.callWith_kw ?_ hst
  rw [hst]
  refine Calls.spliced_cons ?_
  refine wpAny_Call_method (T := "dict") (id := "dict.values") hbase rfl hline F.plainAttrs_dict F.slot_dict_values F.type_dict_values (thn (he.run pins s σ H _ I h) fun u s1 ⟨x, H1, I1, rx, d, kvs, ns, ex, hd, hv, q0, q1⟩ => ?_)
  subst ex
  obtain rfl : u = Value.ref d := rx
  obtain ⟨hz, hsys, vs, kv, dd⟩ := dk_rd I1.hok hd
  have hl : kvs.length = vs.length := Paired.length kv
  refine ⟨dd.typeIs, dd.mapOf.noDict, ?_⟩
  obtain ⟨o, es, ep, ho, hx, hdat, hk, hpr, hnd⟩ := id dd
  have dat : s1.heap.DictAt (mixKind X.prog X.w) d vs ep := ⟨o, es, ho, hx, hdat, hk, hpr, hnd⟩
  show wpAny _ _ (callWith cpos (.builtin "dict.values") [.ref d] [] []) _ X.xe s1
  refine method_meetsIn F.slot_dict_values F.entry_dict_values rfl (PySem.evalArgs_none ⟨rfl, dd.typeIs, F.args_dict_values_1 _, _, meets_dict_values (mixKind X.prog X.w) d hsys, ⟨vs, dd⟩, ?_⟩)
  refine Calls.spliced_nil ?_
  show wpAny _ _ (evalAll [do let v ← eval (.Constant (.int c) j kp2) X.env; standAt pos; pure v]) _ _ _
  refine wpAny_evalAll_cons (wpAny_bind (wpAny_Constant_int (wpAny_bind (wpAny_standAt (wpAny_pure (wpAny_evalAll_nil ?_))))))
  have val : ∀ (i : Nat) (k : Key) (v : Value), vs[i]? = some (k, v) → ∃ t, v = Value.int (ns.getD i 0) t ∧ i < ns.length := fun i k v e1 => by
    obtain ⟨a, e2, e3, e4⟩ := pr_get kv e1
    have e5 : (kvs.map (·.2))[i]? = some a.2 := by rw [List.getElem?_map, e2]; rfl
    rw [hv, List.getElem?_map] at e5
    obtain ⟨m, e6, e7⟩ := Option.map_eq_some_iff.mp e5
    rw [← e7] at e4
    obtain ⟨t, ht⟩ := e4
    exact ⟨t, by rw [List.getD_eq_getElem?_getD, e6]; exact ht, (List.getElem?_eq_some_iff.mp e6).1⟩
  have hlen : ns.length = vs.length := by
    have := congrArg List.length hv
    rw [List.length_map, List.length_map] at this
    omega
  refine max_view (ns := ns) (I1.ok.hd hc) (v := s1.heap.objs.size) ⟨_, Heap.get?_push_size _ rfl, rfl, rfl⟩ (dat.at' fun o e => Heap.get?_push_of_some _ e) (fun i k u e1 => (val i k u e1).imp fun _ h => h.1) hlen (fun z h' tk hk => ?_) (fun i t h' tk hi hb hk => ?_)
  · exact ⟨.int c, H1, I1.kept fun b o e => hk b o (Heap.get?_push_of_some _ e), ⟨_, rfl⟩, q0 z⟩
  · refine ⟨.int (ns.getD i 0), H1, I1.kept fun b o e => hk b o (Heap.get?_push_of_some _ e), ⟨_, rfl⟩, q1 _ ?_ fun z hz => ?_⟩
    · rw [List.getD_eq_getElem?_getD, List.getElem?_eq_getElem hi]
      exact List.getElem_mem hi
    · obtain ⟨j, hj, e⟩ := List.getElem_of_mem hz
      have := hb j hj
      rw [List.getD_eq_getElem?_getD, List.getElem?_eq_getElem hj] at this
      rw [← e]
      exact this
def MaxK (c : Int) (Q : VK) : VK := fun x H1 => ∃ (d : Addr) (kvs : List (Key × V)) (ns : List Int), x = .ref d ∧ Rd H1 d (.dK kvs) ∧ kvs.map (·.2) = ns.map V.int ∧ (ns = [] → Q (.int c) H1) ∧ ∀ m ∈ ns, (∀ z ∈ ns, z ≤ m) → Q (.int m) H1
theorem y_maxV {c : Int} {td : TE} {σ : L2.St} {H : Hp} {Q : VK} (h : td σ H (MaxK c Q)) : tMaxV c td σ H Q := h
theorem y_maxK {c : Int} {H : Hp} {Q : VK} {d : Addr} {t : Tab} (h : Rd H d (.dK (t.map enc))) (k : ∀ m, (m = c ∨ ∃ p ∈ t, p.2 = m) → Q (.int m) H) : MaxK c Q (.ref d) H := by
  refine ⟨d, _, t.map (·.2), rfl, h, by rw [List.map_map, List.map_map]; rfl, fun _ => k c (.inl rfl), fun m hm _ => k m (.inr ?_)⟩
  obtain ⟨p, hp, e⟩ := List.mem_map.mp hm
  exact ⟨p, hp, e⟩
end
end Y
namespace Y
open PySem PySem.Spec PyProof.Rows L2
section
variable {X : Cx} {K : PySem.W.Frag} {σ : L2.St} {e : En} {B H : Hp} {L : Led} {Q : VK} {ta : TA} {x y : V} {a b : Addr} {xs ys : List V} {R : It → Hp → Prop}
/-! int(..), isinstance(..), ranges with a step, lists of ints -/
def rIntU : List V → Hp → VK → Prop := fun xs H Q => (∃ i, xs = [.int i] ∧ Q (.int i) H) ∨ ∃ k, xs = [.bl k] ∧ Q (.int (if k then 1 else 0)) H
theorem call_intU : CallR X (.type "int") rIntU := call_int1
theorem y_intI {i : Int} (q : Q (.int i) H) : rIntU [.int i] H Q := .inl ⟨i, rfl, q⟩
theorem y_intB {c : Bool} (q : Q (.int (if c then 1 else 0)) H) : rIntU [.bl c] H Q := .inr ⟨c, rfl, q⟩
theorem call_isiU (hK : X.K = K) : CallR X (.builtin "isinstance") (rIsi K) := hK ▸ call_isi
theorem y_isiL (h : H a = some (.lst xs)) (q : Q (.bl true) H) : rIsi K [.ref a, .ty "list"] H Q := ⟨.ref a, .ty "list", _, _, true, rfl, .ty "list", .base (.lst h), by rfl, q⟩
def RngK3 (R : It → Hp → Prop) : List V → Hp → Prop := fun vs H1 => ∃ (i j c : Int) (n : Nat), vs = [.int i, .int j, .int c] ∧ RgC i j c n ∧ R (Itc i c n) H1
theorem y_irng3 (h : ta σ H (RngK3 R)) : iRng3 ta σ H R := h
theorem y_rngK3 {i j c : Int} {n : Nat} (h : RgC i j c n) (q : R (Itc i c n) H) : RngK3 R [.int i, .int j, .int c] H := ⟨i, j, c, n, rfl, h, q⟩
theorem RgC.two {i j : Int} (ha : -(2 ^ 30) ≤ i) (ha' : i < 2 ^ 30) (hb : -(2 ^ 30) ≤ j) (hb' : j < 2 ^ 30) : RgC i j (-2) ((i - j + 1) / 2).toNat := by
  have e : Builtin.Range.rangeSize i j (-2) = (((i - j + 1) / 2).toNat : Int) := by
    unfold Builtin.Range.rangeSize
    simp only [show ¬ ((-2 : Int) > 0) by decide, if_false, show (-(-2) : Int) = 2 from rfl]
    split <;> omega
  refine ⟨by decide, by decide, ?_, e⟩
  unfold Builtin.Range.small
  rw [e]
  simp only [Builtin.Range.rangeFitsLong, Bool.and_eq_true, Bool.or_eq_true, decide_eq_true_eq, beq_iff_eq, show ¬ ((-2 : Int) > 0) by decide, if_false]
  omega
theorem cut_init (xs : List V) : cutV xs none (some (-1)) = xs.dropLast := by
  unfold cutV
  rw [List.dropLast_eq_take]
  have e1 : HT.sIx xs.length 0 none = 0 := rfl
  have e2 : HT.sIx xs.length xs.length (some (-1)) = xs.length - 1 := by
    unfold HT.sIx
    simp
    omega
  rw [e1, e2]
  simp
theorem cut_last (xs : List V) : cutV xs (some (-1)) none = xs.drop (xs.length - 1) := by
  unfold cutV
  have e1 : HT.sIx xs.length 0 (some (-1)) = xs.length - 1 := by
    unfold HT.sIx
    simp
    omega
  have e2 : HT.sIx xs.length xs.length none = xs.length := rfl
  rw [e1, e2]
  apply List.take_of_length_le
  simp
/-- ints, as values -/
def IntAt (_ : Hp) (v : V) (n : Int) : Prop := v = .int n
theorem IntAt.up : ∀ (B B' : Hp) (v : V) (n : Int), Same B B' → IntAt B v n → IntAt B' v n := fun _ _ _ _ _ h => h
theorem pr_ints {B : Hp} : ∀ {l : List V} {m : List Int}, Paired (IntAt B) l m → l = m.map V.int
  | _, _, .nil => rfl
  | _, _, .cons h t => by rw [h, pr_ints t]; rfl
theorem fm_ifm {α β : Type} (p : α → Bool) (f : α → β) : ∀ l : List α, l.filterMap (fun r => if p r = true then some (f r) else none) = (l.filter p).map f
  | [] => rfl
  | a :: l => by
    rw [List.filterMap_cons, List.filter_cons, fm_ifm p f l]
    by_cases h : p a = true
    · rw [if_pos h, if_pos h]
      rfl
    · rw [if_neg h, if_neg h]
/-- the members of a list of ints -/
theorem inV_ints {k : Int} : ∀ {ns : List Int}, inV (.int k) (ns.map V.int) = decide (k ∈ ns) := by
  intro ns
  induction ns with
  | nil => rfl
  | cons n ns ih =>
    have e : inV (.int k) ((n :: ns).map V.int) = (eqV (.int n) (.int k) || inV (.int k) (ns.map V.int)) := rfl
    rw [e, ih]
    show ((n == k) || decide (k ∈ ns)) = _
    rw [Bool.eq_iff_iff]
    simp only [Bool.or_eq_true, beq_iff_eq, decide_eq_true_eq, List.mem_cons]
    constructor
    · rintro (h | h)
      · exact .inl h.symm
      · exact .inr h
    · rintro (h | h)
      · exact .inl h.symm
      · exact .inr h
theorem flat_ints : ∀ {ns : List Int}, (ns.map V.int).all flatV = true := by
  intro ns
  induction ns with
  | nil => rfl
  | cons n ns ih =>
    show (true && (ns.map V.int).all flatV) = true
    rw [ih]
    rfl
theorem y_neIN {i : Int} (q : Q (.bl true) H) : rNeU K (.int i) .non H Q := .inl ⟨rfl, q⟩
theorem y_gtup {n : Nat} {t : TGs} {N : L2.St → Hp → Prop} (h : SqT K H a xs) (hl : xs.length = n) (q : t xs σ H N) : gTup K n t (.ref a) σ H N := ⟨a, xs, rfl, h, hl, q⟩
theorem y_inI {ns : List Int} {k : Int} (h : SqL K H a (ns.map V.int)) (q : Q (.bl (decide (k ∈ ns))) H) : rInU K (.int k) (.ref a) H Q := y_inL h rfl flat_ints (by rw [inV_ints]; exact q)
theorem y_gcons {t : TG} {u : TGs} {N : L2.St → Hp → Prop} {v : V} {r : List V} (h : t v σ H fun σ' H' => u r σ' H' N) : gCons t u (v :: r) σ H N := ⟨v, r, rfl, h⟩
theorem y_gnil {N : L2.St → Hp → Prop} (h : N σ H) : gNil [] σ H N := ⟨rfl, h⟩
theorem eqv_ints : ∀ ns : List Int, PyData.eqvAll (ns.map PyData.int) (ns.map PyData.int) = true
  | [] => by simp [PyData.eqvAll]
  | n :: ns => by simp [PyData.eqvAll, PyData.eqv, eqv_ints ns]
theorem dp_ints : ∀ ns : List Int, DpAll K H (ns.map V.int) (ns.map PyData.int)
  | [] => .nil
  | n :: ns => .cons (.int n) (dp_ints ns)
/-- two lists of the same ints -/
theorem y_neInts {ns : List Int} (h1 : SqL K H a (ns.map V.int)) (h2 : SqL K H b (ns.map V.int)) (q : Q (.bl false) H) : rNeU K (.ref a) (.ref b) H Q :=
  y_neD (.lst h1 (dp_ints ns)) (.lst h2 (dp_ints ns)) (PySem.W.shaped_ints ns) (PySem.W.shaped_ints ns) (by rw [PyData.eqv, eqv_ints]; exact q)
theorem y_eqInts {ns : List Int} (h1 : SqL K H a (ns.map V.int)) (h2 : SqL K H b (ns.map V.int)) (q : Q (.bl true) H) : rEqU K (.ref a) (.ref b) H Q :=
  y_eqD (.lst h1 (dp_ints ns)) (.lst h2 (dp_ints ns)) (PySem.W.shaped_ints ns) (PySem.W.shaped_ints ns) (by rw [PyData.eqv, eqv_ints]; exact q)
theorem al_ints {n : Nat} : ∀ {ns : List Int}, Paired (Al K H (n + 1)) (ns.map V.int) (ns.map V.int)
  | [] => .nil
  | _ :: _ => .cons (.inl ⟨rfl, rfl⟩) al_ints
theorem y_ext0 {l : Addr} (S : Sy e B H ((l, .lst xs) :: L)) (hb : H b = some (.lst ys)) (hl : xs.length + ys.length ≤ sizeLine) (k : ∀ H', Sy e B H' ((l, .lst (xs ++ ys)) :: L) → Q .non H') : rExtend (.ref l) [.ref b] H Q :=
  ⟨l, b, xs, ys, rfl, rfl, S.g0, hb, hl, k _ (S.w0 _)⟩
theorem y_ext1 {l : Addr} {q : Addr × HO} (S : Sy e B H (q :: (l, .lst xs) :: L)) (hb : H b = some (.lst ys)) (hl : xs.length + ys.length ≤ sizeLine) (k : ∀ H', Sy e B H' (q :: (l, .lst (xs ++ ys)) :: L) → Q .non H') : rExtend (.ref l) [.ref b] H Q :=
  ⟨l, b, xs, ys, rfl, rfl, S.g1, hb, hl, k _ (S.w1 _)⟩
end
end Y
/-! Things of the ledger lent to a callee, to be read. -/
namespace Y
open PySem PySem.Spec PyProof.Rows L2
/-- the base with the ledger on it -/
def over (B : Hp) : Led → Hp
  | [] => B
  | p :: L => upd (over B L) p.1 p.2
/-- without the ledger's places -/
def less (B : Hp) (L : Led) : Hp := fun a => if a ∈ L.map (·.1) then none else B a
section
variable {e : En} {B B' H H' : Hp} {L N : Led} {a : Addr} {o : HO} {K : PySem.W.Frag} {Q : VK} {E : XK} {v : V} {vs xs : List V} {φ : Ph}
theorem over_out (B : Hp) : ∀ {L : Led} {a : Addr}, a ∉ L.map (·.1) → over B L a = B a
  | [], _, _ => rfl
  | p :: L, a, h => by
    rw [List.map_cons, List.mem_cons, not_or] at h
    show upd (over B L) p.1 p.2 a = _
    unfold upd
    rw [if_neg h.1]
    exact over_out B h.2
theorem over_in (B : Hp) : ∀ {L : Led} {p : Addr × HO}, (L.map (·.1)).Nodup → p ∈ L → over B L p.1 = some p.2
  | q :: L, p, nd, h => by
    rw [List.map_cons, List.nodup_cons] at nd
    show upd (over B L) q.1 q.2 p.1 = _
    rcases List.mem_cons.mp h with h1 | h1
    · subst h1
      exact upd_same
    · have hne : p.1 ≠ q.1 := fun z => nd.1 (by rw [← z]; exact List.mem_map.mpr ⟨p, h1, rfl⟩)
      unfold upd
      rw [if_neg hne]
      exact over_in B nd.2 h1
theorem less_out {B : Hp} {L : Led} {a : Addr} (h : a ∉ L.map (·.1)) : less B L a = B a := if_neg h
theorem Sy.ov (S : Sy e B H L) (h : (a, o) ∈ L) : over B L a = some o := over_in B S.nd h
theorem Sy.bout (S : Sy e B H L) (h : B a = some o) : a ∉ L.map (·.1) := fun z => by
  obtain ⟨p, hp, e1⟩ := List.mem_map.mp z
  have := (S.led p hp).2.1
  rw [show p.1 = a from e1, h] at this
  cases this
theorem Sy.toOver (S : Sy e B H L) : Same B (over B L) := fun a o h => by rw [over_out B (S.bout h)]; exact h
theorem Sy.lendHand (S : Sy e B H L) : Hand (over B L) H [] := by
  refine ⟨fun a o h => ?_, fun p hp => (by cases hp), by simp, fun p hp => (by cases hp)⟩
  by_cases c : a ∈ L.map (·.1)
  · obtain ⟨p, hp, e1⟩ := List.mem_map.mp c
    have h1 := over_in B S.nd hp
    rw [show p.1 = a from e1, h] at h1
    cases h1
    have := (S.led p hp).1
    rw [show p.1 = a from e1] at this
    exact .inl this
  · rw [over_out B c] at h
    exact S.bh a o h
theorem Sy.lendBack (S : Sy e B H L) (T : Sy ⟨[], [], over B L, H⟩ B' H' N) : Same B (less B' L) ∧ Sy e (less B' L) H' (N ++ L) ∧ ∀ p ∈ N, e.H p.1 = Option.none := by
  have hN : ∀ p ∈ N, H p.1 = Option.none := fun p hp => by
    obtain ⟨_, _, r3, _⟩ := T.led p hp
    rcases r3 with z | z
    · cases z
    · exact z
  have hN2 : ∀ p ∈ N, e.H p.1 = Option.none := fun p hp => by
    cases q : e.H p.1 with
    | none => rfl
    | some x => exact absurd (hN p hp) (S.there p.1 (by rw [q]; simp))
  have kp : ∀ a o, H a = some o → H' a = some o := fun a o h => T.keep a o (by simp) (by simp) h
  have out : ∀ {a o}, less B' L a = some o → a ∉ L.map (·.1) ∧ B' a = some o := fun {a o} h => by
    unfold less at h
    by_cases c : a ∈ L.map (·.1)
    · rw [if_pos c] at h; cases h
    · rw [if_neg c] at h; exact ⟨c, h⟩
  have b0 : Same B (less B' L) := fun a o h => by
    unfold less
    rw [if_neg (S.bout h)]
    exact T.b0 a o (S.toOver a o h)
  refine ⟨b0, ⟨S.b0.trans b0, fun a o h => T.bh a o (out h).2, fun p hp => ?_, ?_, fun a o h1 h2 q => kp a o (S.keep a o h1 h2 q), fun a r1 r2 => ?_, fun a r => T.there a (S.there a r), fun p hp => kp _ _ (S.zin p hp), fun a x q hk => ?_, fun p hp => (List.mem_append.mp hp).elim (T.nt p) (S.nt p)⟩, hN2⟩
  · rcases List.mem_append.mp hp with hp | hp
    · obtain ⟨r1, r2, r3, r4⟩ := T.led p hp
      refine ⟨r1, ?_, .inr (hN2 p hp), fun z => ?_⟩
      · unfold less
        split
        · rfl
        · exact r2
      · obtain ⟨q, hq, e1⟩ := List.mem_map.mp z
        have := S.zin q hq
        rw [show q.1 = p.1 from e1, hN p hp] at this
        cases this
    · obtain ⟨s1, s2, s3, s4⟩ := S.led p hp
      refine ⟨kp _ _ s1, ?_, s3, s4⟩
      unfold less
      rw [if_pos (List.mem_map.mpr ⟨p, hp, rfl⟩)]
  · rw [List.map_append]
    refine List.nodup_append.mpr ⟨T.nd, S.nd, fun a ha b hb hab => ?_⟩
    subst hab
    obtain ⟨p, hp, ep⟩ := List.mem_map.mp ha
    obtain ⟨r, hr, er⟩ := List.mem_map.mp hb
    have q1 := hN p hp
    have q2 := (S.led r hr).1
    rw [show p.1 = a from ep] at q1
    rw [show r.1 = a from er, q1] at q2
    cases q2
  · unfold less
    split
    · exact .inl rfl
    · next c =>
        rcases S.fresh a r1 r2 with z | ⟨xs, z⟩
        · exact T.fresh a (S.there a r1) (by show over B L a = _; rw [over_out B c]; exact z)
        · exact .inr ⟨xs, T.b0 a _ (S.toOver a _ z)⟩
  · obtain ⟨c, q⟩ := out q
    rcases T.lk a x q hk with z | z | ⟨ob, u, z⟩
    · exact .inl z
    · exact absurd z (by simp)
    · have z : H a = some (.frz ob u) := z
      cases r : B a with
      | none =>
        rcases T.fresh a (by show H a ≠ _; rw [z]; simp) (by show over B L a = _; rw [over_out B c]; exact r) with this | ⟨xs, this⟩
        · rw [q] at this; cases this
        · rw [q] at this; cases this; exact hk.elim
      | some y =>
        have e1 : B' a = some y := T.b0 a y (S.toOver a y r)
        rw [q] at e1; cases e1
        rcases S.lk a x r hk with z2 | z2 | z2
        · rw [z] at z2; cases z2; exact hk.elim
        · exact .inr (.inl z2)
        · exact .inr (.inr z2)
/-- a call that may read all of the ledger -/
theorem y_lend (S : Sy e B H L) (h : φ (over B L) vs [] fun B' v N => ∀ H', Same (over B L) B' → Same B (less B' L) → Sy e (less B' L) H' (N ++ L) → (∀ p ∈ N, e.H p.1 = none) → Q v H')
    (mono : ∀ (B : Hp) (k k' : Hp → V → Led → Prop), (∀ B' v N, k B' v N → k' B' v N) → φ B vs [] k → φ B vs [] k') : spY φ vs H Q E :=
  ⟨over B L, [], S.lendHand, mono _ _ _ (fun B' v N hk H' T => by
    obtain ⟨h1, h2, h3⟩ := S.lendBack T
    exact hk H' T.b0 h1 h2 h3) h⟩
/-- lists and dicts alone -/
def Flat (L : Led) : Prop := ∀ p ∈ L, (∃ xs, p.2 = .lst xs) ∨ ∃ kvs, p.2 = .dK kvs
theorem less_t (S : Sy e B H L) (hf : Flat L) (b : Same (over B L) B') (h : SqT K B' a xs) : SqT K (less B' L) a xs := by
  rcases h with h | h
  · have c : a ∉ L.map (·.1) := fun z => by
      obtain ⟨p, hp, e1⟩ := List.mem_map.mp z
      have h1 := b _ _ (over_in B S.nd hp)
      rw [show p.1 = a from e1] at h1
      rcases hf p hp with ⟨ys, e2⟩ | ⟨ys, e2⟩ <;> rw [e2] at h1 <;> rcases h with h | ⟨ob, h⟩ <;> rw [h1] at h <;> cases h
    refine .inl ?_
    rcases h with h | ⟨ob, h⟩
    · exact .inl (by rw [less_out c]; exact h)
    · exact .inr ⟨ob, by rw [less_out c]; exact h⟩
  · exact .inr h
end
end Y
/-! The ledger by index; == and in of plain data; data by their types. -/
namespace Y
open PySem PySem.Spec PyProof.Rows L2
section
variable {e : En} {B B' H H' : Hp} {L L' R : Led} {a b p : Addr} {o o' : HO} {K : PySem.W.Frag} {n : Nat}
theorem led_split {n : Nat} {q : Addr × HO} (h : L[n]? = some q) : L = L.take n ++ q :: L.drop (n + 1) := by
  obtain ⟨h1, h2⟩ := List.getElem?_eq_some_iff.mp h
  have := List.take_append_drop n L
  rw [List.drop_eq_getElem_cons h1, h2] at this
  exact this.symm
theorem led_set {n : Nat} {q : Addr × HO} (h : L[n]? = some q) (q' : Addr × HO) : L.set n q' = L.take n ++ q' :: L.drop (n + 1) := by
  obtain ⟨h1, h2⟩ := List.getElem?_eq_some_iff.mp h
  rw [List.set_eq_take_append_cons_drop, if_pos h1]
theorem led_erase {n : Nat} {q : Addr × HO} (h : L[n]? = some q) : L.Perm (q :: L.eraseIdx n) := by
  have e1 : L.eraseIdx n = L.take n ++ L.drop (n + 1) := List.eraseIdx_eq_take_drop_succ L n
  rw [e1]
  conv => lhs; rw [led_split h]
  exact List.perm_middle
theorem led_unerase {n : Nat} {q : Addr × HO} (h : L[n]? = some q) (q' : Addr × HO) : (q' :: L.eraseIdx n).Perm (L.set n q') := by
  have e1 : L.eraseIdx n = L.take n ++ L.drop (n + 1) := List.eraseIdx_eq_take_drop_succ L n
  rw [e1, led_set h]
  exact List.perm_middle.symm
theorem Sy.at (S : Sy e B H L) (n : Nat) (h : L[n]? = some (a, o)) : H a = some o := (S.led (a, o) (List.mem_of_getElem? h)).1
theorem Sy.front (S : Sy e B H L) (n : Nat) (h : L[n]? = some (a, o)) : Sy e B H ((a, o) :: L.eraseIdx n) := S.perm (led_erase h)
theorem Sy.wr (S : Sy e B H L) (n : Nat) (h : L[n]? = some (a, o)) (o' : HO) (no : NT o' := by intro _ z; cases z) : Sy e B (upd H a o') (L.set n (a, o')) := ((S.front n h).w0 o' no).perm (led_unerase h _)
theorem Sy.outN (S : Sy e B H L) (n : Nat) : Sy e B H (L.eraseIdx n) := S.sub (List.eraseIdx_sublist _ _)
theorem Sy.freezeN (S : Sy e B H L) (n : Nat) (h : L[n]? = some (a, o)) (hn : e.H a = Option.none) : Same B (upd B a o) ∧ Sy e (upd B a o) H (L.eraseIdx n) := (S.front n h).freeze hn
theorem Sy.frz (S : Sy e B H L) (n : Nat) (h : L[n]? = some (a, o)) (hn : e.H a = Option.none) : ∃ B', Same B B' ∧ B' a = some o ∧ Sy e B' H (L.eraseIdx n) := ⟨_, (S.freezeN n h hn).1, upd_same, (S.freezeN n h hn).2⟩
/-- behind a call that was handed L, whatever it may change now -/
theorem Sy.backG (S : Sy e B H (L ++ R)) (T : Sy ⟨L.map (·.1), [], B, H⟩ B' H' L') : Same B B' ∧ Sy e B' H' (L' ++ R) ∧ ∀ p ∈ L', p.1 ∈ L.map (·.1) ∨ (H p.1 = Option.none ∧ e.H p.1 = Option.none) := by
  have nd := S.nd
  rw [List.map_append] at nd
  have nR : ∀ p ∈ R, p.1 ∉ L.map (·.1) := fun p hp hm => (List.nodup_append.mp nd).2.2 _ hm _ (List.mem_map.mpr ⟨p, hp, rfl⟩) rfl
  have hnew : ∀ p ∈ L', p.1 ∈ L.map (·.1) ∨ (H p.1 = Option.none ∧ e.H p.1 = Option.none) := fun p hp => by
    obtain ⟨_, _, r3, _⟩ := T.led p hp
    rcases r3 with z | z
    · exact .inl z
    · refine .inr ⟨z, ?_⟩
      cases q : e.H p.1 with
      | none => rfl
      | some x => exact absurd z (S.there p.1 (by rw [q]; simp))
  have frR : ∀ p ∈ R, B' p.1 = Option.none := fun p hp => by
    obtain ⟨s1, s2, s3, s4⟩ := S.led p (List.mem_append_right _ hp)
    rcases T.fresh p.1 (by show H p.1 ≠ _; rw [s1]; simp) s2 with z | ⟨xs, z⟩
    · exact z
    · have h1 := T.keep p.1 p.2 (nR p hp) (by simp) s1
      have h2 := T.bh.tup z
      rw [h1] at h2
      exact absurd (Option.some.inj h2) (S.nt p (List.mem_append_right _ hp) xs)
  refine ⟨T.b0, ⟨S.b0.trans T.b0, T.bh, fun p hp => ?_, ?_, fun a x h1 h2 q => ?_, fun a r1 r2 => ?_, fun a r => T.there a (S.there a r), fun p hp => ?_, fun a x q hk => ?_, fun p hp => (List.mem_append.mp hp).elim (T.nt p) (fun z => S.nt p (List.mem_append_right _ z))⟩, hnew⟩
  · rcases List.mem_append.mp hp with hp | hp
    · obtain ⟨r1, r2, r3, r4⟩ := T.led p hp
      refine ⟨r1, r2, ?_, ?_⟩
      · rcases hnew p hp with hm | ⟨_, hm⟩
        · obtain ⟨q, hq, eq⟩ := List.mem_map.mp hm
          rw [← eq]; exact (S.led q (List.mem_append_left _ hq)).2.2.1
        · exact .inr hm
      · rcases hnew p hp with hm | ⟨hm, _⟩
        · obtain ⟨q, hq, eq⟩ := List.mem_map.mp hm
          rw [← eq]; exact (S.led q (List.mem_append_left _ hq)).2.2.2
        · intro z
          obtain ⟨q, hq, e1⟩ := List.mem_map.mp z
          have := S.zin q hq
          rw [show q.1 = p.1 from e1, hm] at this; cases this
    · obtain ⟨s1, s2, s3, s4⟩ := S.led p (List.mem_append_right _ hp)
      exact ⟨T.keep p.1 p.2 (nR p hp) (by simp) s1, frR p hp, s3, s4⟩
  · rw [List.map_append]
    refine List.nodup_append.mpr ⟨T.nd, (List.nodup_append.mp nd).2.1, fun x hx y hy hxy => ?_⟩
    subst hxy
    obtain ⟨p, hp, ep⟩ := List.mem_map.mp hx
    obtain ⟨r, hr, er⟩ := List.mem_map.mp hy
    rcases hnew p hp with hm | ⟨hm, _⟩
    · rw [show p.1 = x from ep] at hm
      exact nR r hr (by rw [show r.1 = x from er]; exact hm)
    · have q2 := (S.led r (List.mem_append_right _ hr)).1
      rw [show r.1 = x from er, ← show p.1 = x from ep, hm] at q2
      cases q2
  · have r := S.keep a x h1 h2 q
    refine T.keep a x (fun hm => ?_) (by simp) r
    obtain ⟨p, hp, eq⟩ := List.mem_map.mp hm
    obtain ⟨s1, s2, s3, s4⟩ := S.led p (List.mem_append_left _ hp)
    rw [show p.1 = a from eq] at s3
    rcases s3 with z | z
    · exact h1 z
    · rw [q] at z; cases z
  · rcases S.fresh a r1 r2 with z | ⟨xs, z⟩
    · exact T.fresh a (S.there a r1) z
    · exact .inr ⟨xs, T.b0 a _ z⟩
  · refine T.keep p.1 _ (fun hm => ?_) (by simp) (S.zin p hp)
    obtain ⟨q, hq, eq⟩ := List.mem_map.mp hm
    exact (S.led q (List.mem_append_left _ hq)).2.2.2 (List.mem_map.mpr ⟨p, hp, eq.symm⟩)
  · rcases T.lk a x q hk with z | z | ⟨ob, u, z⟩
    · exact .inl z
    · exact absurd z (by simp)
    · have z : H a = some (.frz ob u) := z
      cases r : B a with
      | none =>
        rcases T.fresh a (by show H a ≠ _; rw [z]; simp) r with this | ⟨xs, this⟩
        · rw [q] at this; cases this
        · rw [q] at this; cases this; exact hk.elim
      | some y =>
        have e1 : B' a = some y := T.b0 a y r
        rw [q] at e1; cases e1
        rcases S.lk a x r hk with z2 | z2 | z2
        · rw [z] at z2; cases z2; exact hk.elim
        · exact .inr (.inl z2)
        · exact .inr (.inr z2)
/-- one of the ledger is handed over -/
theorem Sy.handN (S : Sy e B H L) (n : Nat) (h : L[n]? = some (a, o)) : Hand B H [(a, o)] := (S.front n h).hand1
theorem Sy.backN1 (S : Sy e B H L) (n : Nat) (h : L[n]? = some (a, o)) (T : Sy ⟨[a], [], B, H⟩ B' H' [(a, o')]) : Sy e B' H' (L.set n (a, o')) := ((S.front n h).back1 T).perm (led_unerase h _)
end
/-! ### == and in of plain data -/
section
variable {X : Cx} {K : PySem.W.Frag}
/-- no dict, not deep -/
structure Pl (d : PyData) : Prop where
  pl : d.plain = true
  dp : d.depth ≤ 50
def rEqP (K : PySem.W.Frag) : R2 := fun x y H Q => ∃ d e, Dp K H x d ∧ Dp K H y e ∧ Pl d ∧ Pl e ∧ Q (.bl (PyData.eqv d e)) H
def rNeP (K : PySem.W.Frag) : R2 := fun x y H Q => ∃ d e, Dp K H x d ∧ Dp K H y e ∧ Pl d ∧ Pl e ∧ Q (.bl (!PyData.eqv d e)) H
theorem op_eqP (hu : X.A.units + 64 < cLine) : OpR X (compareOp .Eq) (rEqP X.K) := by
  intro pins s σ H x y v u Q I rx ry h
  obtain ⟨d, e, hd, he, sd, se, q⟩ := h
  obtain ⟨as, r1⟩ := Dp.reads I d x v hd rx
  obtain ⟨bs, r2⟩ := Dp.reads I e y u he ry
  exact SeqAt.eq_plain r1 r2 sd.pl se.pl (by have := sd.dp; have : min d.depth e.depth ≤ d.depth := Nat.min_le_left _ _; omega) ⟨.bl _, H, I, rfl, q⟩
theorem op_neP (hu : X.A.units + 64 < cLine) : OpR X (compareOp .NotEq) (rNeP X.K) := by
  intro pins s σ H x y v u Q I rx ry h
  obtain ⟨d, e, hd, he, sd, se, q⟩ := h
  obtain ⟨as, r1⟩ := Dp.reads I d x v hd rx
  obtain ⟨bs, r2⟩ := Dp.reads I e y u he ry
  exact SeqAt.ne_plain r1 r2 sd.pl se.pl (by have := sd.dp; have : min d.depth e.depth ≤ d.depth := Nat.min_le_left _ _; omega) ⟨.bl _, H, I, rfl, q⟩
def rInP (K : PySem.W.Frag) (neg : Bool) : R2 := fun x y H Q => ∃ d ds, Dp K H x d ∧ (Dp K H y (.list ds) ∨ Dp K H y (.tuple ds)) ∧ d.plain = true ∧ PyData.plainAll ds = true ∧ d.depth ≤ 50 ∧ Q (.bl (neg ^^ ds.any fun z => PyData.eqv z d)) H
theorem op_inP (hu : X.A.units + 64 < cLine) : OpR X (compareOp .In) (rInP X.K false) := by
  intro pins s σ H x y v u Q I rx ry h
  obtain ⟨d, ds, hd, he, sd, se, dd, q⟩ := h
  obtain ⟨as, r1⟩ := Dp.reads I d x v hd rx
  have hm : min (PyData.depthAll ds) d.depth ≤ d.depth := Nat.min_le_right _ _
  rw [Bool.false_xor] at q
  rcases he with he | he
  · obtain ⟨bs, r2⟩ := Dp.reads I _ y u he ry
    exact SeqAt.in_list_data r2 r1 se sd (by omega) ⟨.bl _, H, I, rfl, q⟩
  · obtain ⟨bs, r2⟩ := Dp.reads I _ y u he ry
    exact SeqAt.in_tuple_data r2 r1 se sd (by omega) ⟨.bl _, H, I, rfl, q⟩
theorem op_notInP (hu : X.A.units + 64 < cLine) : OpR X (compareOp .NotIn) (rInP X.K true) := by
  intro pins s σ H x y v u Q I rx ry h
  obtain ⟨d, ds, hd, he, sd, se, dd, q⟩ := h
  obtain ⟨as, r1⟩ := Dp.reads I d x v hd rx
  have hm : min (PyData.depthAll ds) d.depth ≤ d.depth := Nat.min_le_right _ _
  rw [Bool.true_xor] at q
  rcases he with he | he
  · obtain ⟨bs, r2⟩ := Dp.reads I _ y u he ry
    exact SeqAt.notIn_list_data r2 r1 se sd (by omega) ⟨.bl _, H, I, rfl, q⟩
  · obtain ⟨bs, r2⟩ := Dp.reads I _ y u he ry
    exact SeqAt.notIn_tuple_data r2 r1 se sd (by omega) ⟨.bl _, H, I, rfl, q⟩
def rEqZ (K : PySem.W.Frag) : R2 := fun x y H Q => rEqU K x y H Q ∨ rEqP K x y H Q
theorem op_eqZ (hK : X.K = K) (hu : X.A.units + 64 < cLine) : OpR X (compareOp .Eq) (rEqZ K) := hK ▸ OpR.or (op_eqU rfl hu) (op_eqP hu)
def rNeZ (K : PySem.W.Frag) : R2 := fun x y H Q => rNeU K x y H Q ∨ rNeP K x y H Q
theorem op_neZ (hK : X.K = K) (hu : X.A.units + 64 < cLine) : OpR X (compareOp .NotEq) (rNeZ K) := hK ▸ OpR.or (op_neU rfl hu) (op_neP hu)
def rInZ (K : PySem.W.Frag) : R2 := fun x y H Q => rInU K x y H Q ∨ rInP K false x y H Q
theorem op_inZ (hK : X.K = K) (hu : X.A.units + 64 < cLine) : OpR X (compareOp .In) (rInZ K) := hK ▸ OpR.or (op_inU rfl (by omega)) (op_inP hu)
def rNotInZ (K : PySem.W.Frag) : R2 := fun x y H Q => rNotInU K x y H Q ∨ rInP K true x y H Q
theorem op_notInZ (hK : X.K = K) (hu : X.A.units + 64 < cLine) : OpR X (compareOp .NotIn) (rNotInZ K) := hK ▸ OpR.or (op_notInU rfl (by omega)) (op_notInP hu)
end
/-! ### data by their types -/
theorem depthAll_le {n : Nat} : ∀ {ds : List PyData}, (∀ d ∈ ds, d.depth ≤ n) → PyData.depthAll ds ≤ n
  | [], _ => by simp [PyData.depthAll]
  | d :: ds, h => by
    have h1 := h d List.mem_cons_self
    have h2 := depthAll_le (ds := ds) fun x hx => h x (List.mem_cons_of_mem _ hx)
    rw [PyData.depthAll]
    omega
theorem plainAll_of : ∀ {ds : List PyData}, (∀ d ∈ ds, d.plain = true) → PyData.plainAll ds = true
  | [], _ => rfl
  | d :: ds, h => by
    rw [PyData.plainAll, h d List.mem_cons_self, plainAll_of fun x hx => h x (List.mem_cons_of_mem _ hx)]
    rfl
structure Cod (α : Type) where
  enc : α → PyData
  dep : Nat
  pl : ∀ x, (enc x).plain = true
  dp : ∀ x, (enc x).depth ≤ dep
  eq : ∀ x y, PyData.eqv (enc x) (enc y) = true ↔ x = y
namespace Cod
def int : Cod Int := ⟨.int, 1, fun _ => rfl, fun _ => by simp [PyData.depth], fun x y => by simp [PyData.eqv]⟩
def str : Cod Str := ⟨.str, 1, fun _ => rfl, fun _ => by simp [PyData.depth], fun x y => by simp [PyData.eqv]⟩
def bool : Cod Bool := ⟨.bool, 1, fun _ => rfl, fun _ => by simp [PyData.depth], fun x y => by simp [PyData.eqv]⟩
def optE {α : Type} (c : Cod α) : Option α → PyData
  | none => .none
  | some x => c.enc x
theorem eqvAll_map {α : Type} (c : Cod α) : ∀ xs ys : List α, PyData.eqvAll (xs.map c.enc) (ys.map c.enc) = true ↔ xs = ys
  | [], [] => by simp [PyData.eqvAll]
  | [], _ :: _ => by simp [PyData.eqvAll]
  | _ :: _, [] => by simp [PyData.eqvAll]
  | x :: xs, y :: ys => by
    simp only [List.map_cons, PyData.eqvAll, Bool.and_eq_true, c.eq, eqvAll_map c xs ys, List.cons.injEq]
def list {α : Type} (c : Cod α) : Cod (List α) := ⟨fun xs => .list (xs.map c.enc), c.dep + 1, fun xs => by
    rw [PyData.plain]
    exact plainAll_of fun d hd => by obtain ⟨x, _, rfl⟩ := List.mem_map.mp hd; exact c.pl x, fun xs => by
    rw [PyData.depth]
    have := depthAll_le (n := c.dep) (ds := xs.map c.enc) fun d hd => by obtain ⟨x, _, rfl⟩ := List.mem_map.mp hd; exact c.dp x
    omega, fun xs ys => by rw [PyData.eqv]; exact eqvAll_map c xs ys⟩
def tupL {α : Type} (c : Cod α) : Cod (List α) := ⟨fun xs => .tuple (xs.map c.enc), c.dep + 1, fun xs => by
    rw [PyData.plain]
    exact plainAll_of fun d hd => by obtain ⟨x, _, rfl⟩ := List.mem_map.mp hd; exact c.pl x, fun xs => by
    rw [PyData.depth]
    have := depthAll_le (n := c.dep) (ds := xs.map c.enc) fun d hd => by obtain ⟨x, _, rfl⟩ := List.mem_map.mp hd; exact c.dp x
    omega, fun xs ys => by rw [PyData.eqv]; exact eqvAll_map c xs ys⟩
def tup2 {α β : Type} (c : Cod α) (d : Cod β) : Cod (α × β) := ⟨fun x => .tuple [c.enc x.1, d.enc x.2], max c.dep d.dep + 1, fun x => by simp [PyData.plain, PyData.plainAll, c.pl, d.pl], fun x => by
    have h1 := c.dp x.1
    have h2 := d.dp x.2
    simp only [PyData.depth, PyData.depthAll]
    omega, fun x y => by
    simp only [PyData.eqv, PyData.eqvAll, Bool.and_true, Bool.and_eq_true, c.eq, d.eq]
    exact ⟨fun h => Prod.ext h.1 h.2, fun h => by rw [h]; exact ⟨rfl, rfl⟩⟩⟩
def tup3 {α β γ : Type} (c : Cod α) (d : Cod β) (f : Cod γ) : Cod (α × β × γ) := ⟨fun x => .tuple [c.enc x.1, d.enc x.2.1, f.enc x.2.2], max c.dep (max d.dep f.dep) + 1, fun x => by simp [PyData.plain, PyData.plainAll, c.pl, d.pl, f.pl], fun x => by
    have h1 := c.dp x.1
    have h2 := d.dp x.2.1
    have h3 := f.dp x.2.2
    simp only [PyData.depth, PyData.depthAll]
    omega, fun x y => by
    obtain ⟨x1, x2, x3⟩ := x
    obtain ⟨y1, y2, y3⟩ := y
    simp only [PyData.eqv, PyData.eqvAll, Bool.and_true, Bool.and_eq_true, c.eq, d.eq, f.eq, Prod.mk.injEq]⟩
def optI : Cod (Option Int) := ⟨optE int, 1, fun x => by cases x <;> rfl, fun x => by cases x <;> simp [optE, int, PyData.depth], fun x y => by
    cases x <;> cases y <;> simp [optE, int, PyData.eqv]⟩
end Cod
/-- v stands for x -/
def At {α : Type} (c : Cod α) (K : PySem.W.Frag) (B : Hp) (v : V) (x : α) : Prop := Dp K B v (c.enc x)
section
variable {α β : Type} {c : Cod α} {K : PySem.W.Frag} {e : En} {B B' H H' : Hp} {L : Led} {a p : Addr} {v u x y : V} {xs vs : List V} {Q : VK}
theorem At.up {z : α} (s : Same B B') (h : At c K B v z) : At c K B' v z := up_d s h
theorem at_up (B B' : Hp) (v : V) (z : α) (s : Same B B') (h : At c K B v z) : At c K B' v z := up_d s h
theorem At.int {i : Int} : At .int K B (.int i) i := Dp.int i
theorem At.str {i : Str} : At .str K B (.str i) i := Dp.str i
theorem At.bool {i : Bool} : At .bool K B (.bl i) i := Dp.bl i
theorem at_int {i : Int} (h : At .int K B v i) : v = .int i := by cases h; rfl
theorem at_str {i : Str} (h : At .str K B v i) : v = .str i := by cases h; rfl
theorem at_bool {i : Bool} (h : At .bool K B v i) : v = .bl i := by cases h; rfl
theorem dpAll_of : ∀ {vs : List V} {zs : List α}, Paired (At c K B) vs zs → DpAll K B vs (zs.map c.enc)
  | _, _, .nil => .nil
  | _, _, .cons h t => .cons h (dpAll_of t)
theorem of_dpAll : ∀ {vs : List V} {zs : List α}, DpAll K B vs (zs.map c.enc) → Paired (At c K B) vs zs
  | _, [], h => by cases h; exact .nil
  | _, _ :: _, h => by cases h with | cons h t => exact .cons h (of_dpAll t)
theorem at_list {zs : List α} (h : At (.list c) K B v zs) : ∃ a vs, v = .ref a ∧ SqL K B a vs ∧ Paired (At c K B) vs zs := by
  cases h with
  | lst h1 h2 => exact ⟨_, _, rfl, h1, of_dpAll h2⟩
theorem at_list_ref {zs : List α} (h : At (.list c) K B (.ref a) zs) : ∃ vs, SqL K B a vs ∧ Paired (At c K B) vs zs := by
  cases h with
  | lst h1 h2 => exact ⟨_, h1, of_dpAll h2⟩
theorem At.list {zs : List α} (h1 : SqL K B a vs) (h2 : Paired (At c K B) vs zs) : At (.list c) K B (.ref a) zs := .lst h1 (dpAll_of h2)
theorem at_tupL {zs : List α} (h : At (.tupL c) K B v zs) : ∃ a vs, v = .ref a ∧ SqT K B a vs ∧ Paired (At c K B) vs zs := by
  cases h with
  | tup h1 h2 => exact ⟨_, _, rfl, h1, of_dpAll h2⟩
theorem At.tupL {zs : List α} (h1 : SqT K B a vs) (h2 : Paired (At c K B) vs zs) : At (.tupL c) K B (.ref a) zs := .tup h1 (dpAll_of h2)
theorem at_tup2 {d : Cod β} {z : α × β} (h : At (.tup2 c d) K B v z) : ∃ a v1 v2, v = .ref a ∧ SqT K B a [v1, v2] ∧ At c K B v1 z.1 ∧ At d K B v2 z.2 := by
  cases h with
  | tup h1 h2 =>
    cases h2 with
    | cons g1 h2 =>
      cases h2 with
      | cons g2 h2 =>
        cases h2
        exact ⟨_, _, _, rfl, h1, g1, g2⟩
theorem At.tup2 {d : Cod β} {z : α × β} {v1 v2 : V} (h : SqT K B a [v1, v2]) (h1 : At c K B v1 z.1) (h2 : At d K B v2 z.2) : At (.tup2 c d) K B (.ref a) z := .tup h (.cons h1 (.cons h2 .nil))
theorem at_tup3 {γ : Type} {d : Cod β} {f : Cod γ} {z : α × β × γ} (h : At (.tup3 c d f) K B v z) : ∃ a v1 v2 v3, v = .ref a ∧ SqT K B a [v1, v2, v3] ∧ At c K B v1 z.1 ∧ At d K B v2 z.2.1 ∧ At f K B v3 z.2.2 := by
  cases h with
  | tup h1 h2 =>
    cases h2 with
    | cons g1 h2 =>
      cases h2 with
      | cons g2 h2 =>
        cases h2 with
        | cons g3 h2 =>
          cases h2
          exact ⟨_, _, _, _, rfl, h1, g1, g2, g3⟩
theorem At.tup3 {γ : Type} {d : Cod β} {f : Cod γ} {z : α × β × γ} {v1 v2 v3 : V} (h : SqT K B a [v1, v2, v3]) (h1 : At c K B v1 z.1) (h2 : At d K B v2 z.2.1) (h3 : At f K B v3 z.2.2) : At (.tup3 c d f) K B (.ref a) z := .tup h (.cons h1 (.cons h2 (.cons h3 .nil)))
theorem Cod.Pl (c : Cod α) (z : α) (h : c.dep ≤ 50) : Pl (c.enc z) := ⟨c.pl z, Nat.le_trans (c.dp z) h⟩
theorem Cod.dec [DecidableEq α] (c : Cod α) (z w : α) : PyData.eqv (c.enc z) (c.enc w) = decide (z = w) := by
  rw [Bool.eq_iff_iff, c.eq]
  simp
/-- == of two of a type -/
theorem y_eqC [DecidableEq α] (c : Cod α) {z w : α} (S : Sy e B H L) (h1 : At c K B x z) (h2 : At c K B y w) (hd : c.dep ≤ 50) (q : Q (.bl (decide (z = w))) H) : rEqZ K x y H Q :=
  .inr ⟨_, _, S.d h1, S.d h2, c.Pl z hd, c.Pl w hd, by rw [c.dec]; exact q⟩
theorem y_neC [DecidableEq α] (c : Cod α) {z w : α} (S : Sy e B H L) (h1 : At c K B x z) (h2 : At c K B y w) (hd : c.dep ≤ 50) (q : Q (.bl (!decide (z = w))) H) : rNeZ K x y H Q :=
  .inr ⟨_, _, S.d h1, S.d h2, c.Pl z hd, c.Pl w hd, by rw [c.dec]; exact q⟩
theorem any_enc [DecidableEq α] (c : Cod α) (z : α) (zs : List α) : ((zs.map c.enc).any fun d => PyData.eqv d (c.enc z)) = decide (z ∈ zs) := by
  rw [List.any_map, Bool.eq_iff_iff, List.any_eq_true]
  simp only [Function.comp_apply, c.eq, decide_eq_true_eq]
  constructor
  · rintro ⟨w, h1, rfl⟩; exact h1
  · intro h; exact ⟨z, h, rfl⟩
theorem y_inC [DecidableEq α] (c : Cod α) {z : α} {zs : List α} (S : Sy e B H L) (h1 : At c K B x z) (h2 : At (.list c) K B y zs) (hd : c.dep ≤ 50) (q : Q (.bl (decide (z ∈ zs))) H) : rInZ K x y H Q :=
  .inr ⟨_, _, S.d h1, .inl (S.d h2), c.pl z, plainAll_of fun d hd => (by obtain ⟨x, _, rfl⟩ := List.mem_map.mp hd; exact c.pl x), Nat.le_trans (c.dp z) hd, by rw [any_enc, Bool.false_xor]; exact q⟩
theorem y_notInC [DecidableEq α] (c : Cod α) {z : α} {zs : List α} (S : Sy e B H L) (h1 : At c K B x z) (h2 : At (.list c) K B y zs) (hd : c.dep ≤ 50) (q : Q (.bl (!decide (z ∈ zs))) H) : rNotInZ K x y H Q :=
  .inr ⟨_, _, S.d h1, .inl (S.d h2), c.pl z, plainAll_of fun d hd => (by obtain ⟨x, _, rfl⟩ := List.mem_map.mp hd; exact c.pl x), Nat.le_trans (c.dp z) hd, by rw [any_enc, Bool.true_xor]; exact q⟩
end
end Y
/-! Steps over the ledger by index; comprehensions over data; texts; kinds. -/
namespace Y
open PySem PySem.Spec PyProof.Rows L2
section
variable {K : PySem.W.Frag} {σ : L2.St} {e : En} {B B' H : Hp} {L : Led} {Q : VK} {E : XK} {te to : TE} {tt : TT} {ta : TA} {v x y : V} {xs ys vs ws : List V} {a b p l : Addr} {o : HO} {nx bk ct : L2.St → Hp → Prop} {rt : VK} {g : TG} {tb : TS} {φ : Ph}
theorem y_app (n : Nat) (S : Sy e B H L) (h : L[n]? = some (l, .lst xs)) (hl : xs.length < sizeLine) (k : ∀ H', Sy e B H' (L.set n (l, .lst (xs ++ [v]))) → Q .non H') : rAppend (.ref l) [v] H Q :=
  ⟨l, xs, v, rfl, rfl, S.at n h, hl, k _ (S.wr n h _)⟩
theorem y_ext (n : Nat) (S : Sy e B H L) (h : L[n]? = some (l, .lst xs)) (hb : H b = some (.lst ys)) (hl : xs.length + ys.length ≤ sizeLine) (k : ∀ H', Sy e B H' (L.set n (l, .lst (xs ++ ys))) → Q .non H') : rExtend (.ref l) [.ref b] H Q :=
  ⟨l, b, xs, ys, rfl, rfl, S.at n h, hb, hl, k _ (S.wr n h _)⟩
theorem y_setL {i : Int} {j : Nat} {N : Hp → Prop} (n : Nat) (S : Sy e B H L) (h : L[n]? = some (l, .lst xs)) (hj : ixN xs.length i = some j) (k : ∀ H', Sy e B H' (L.set n (l, .lst (xs.set j v))) → N H') : rSetU (.ref l) (.int i) v H N := .inl ⟨l, xs, i, j, rfl, rfl, S.at n h, hj, k _ (S.wr n h _)⟩
theorem y_setD {d : Addr} {kvs : List (Key × V)} {kk : Key} {N : Hp → Prop} (n : Nat) (S : Sy e B H L) (h : L[n]? = some (d, .dK kvs)) (hk : x = kV kk) (hl : kvs.length < sizeLine) (k : ∀ H', Sy e B H' (L.set n (d, .dK (putK kvs kk v))) → N H') : rSetU (.ref d) x v H N := .inr ⟨d, _, rfl, .inl ⟨kvs, kk, S.at n h, hk, hl, rfl⟩, k _ (S.wr n h _)⟩
/-- a call, handed the n-th of the ledger -/
theorem y_spN (n : Nat) (S : Sy e B H L) (h : L[n]? = some (a, o)) (k : φ B vs [(a, o)] fun B' v L' => ∀ H', Sy ⟨[a], [], B, H⟩ B' H' L' → Q v H') : spY φ vs H Q E := ⟨B, [(a, o)], S.handN n h, k⟩
/-- draws by the bag -/
theorem y_drawN {m : Nat} {many : Int} (n : Nat) (S : Sy e B H L) (h : L[n]? = some (b, o)) (hb : Bag m o) (hm : 0 < m) (h0 : 0 < many) (h1 : many < 2 ^ 100)
    (k : ∀ i o' H', 0 ≤ i → i < many → Bag (m - 1) o' → Sy e B H' (L.set n (b, o')) → Q (.int i) H') : spY φ_draw [.ref b, .int many] H Q E :=
  y_spN n S h ⟨b, o, many, m - 1, rfl, rfl, hb.mono (by omega), h0, h1, fun i o' a1 a2 a3 H' T => k i o' H' a1 a2 a3 (S.backN1 n h T)⟩
/-- a member of a list by a drawn place -/
theorem y_ixM {i : Int} (h : SqL K H p xs) (h0 : 0 ≤ i) (h1 : i < xs.length) (q : ∀ v, v ∈ xs → Q v H) : rIxU K (.ref p) (.int i) H Q := by
  obtain ⟨v, hv⟩ : ∃ v, xs[i.toNat]? = some v := ⟨_, List.getElem?_eq_getElem (show i.toNat < xs.length by omega)⟩
  exact y_ixL h (atI_of h0 hv) (q v (List.mem_of_getElem? hv))
theorem y_ixC {α : Type} {c : Cod α} {zs : List α} {i : Int} (S : Sy e B H L) (h : At (.list c) K B (.ref p) zs) (h0 : 0 ≤ i) (h1 : i < zs.length) (q : ∀ v z, zs[i.toNat]? = some z → At c K B v z → Q v H) : rIxU K (.ref p) (.int i) H Q := by
  obtain ⟨vs, h2, h3⟩ := at_list_ref h
  obtain ⟨z, hz⟩ : ∃ z, zs[i.toNat]? = some z := ⟨_, List.getElem?_eq_getElem (show i.toNat < zs.length by omega)⟩
  obtain ⟨v, hv, hvz⟩ := pr_get h3 hz
  exact y_ixL (S.l h2) (atI_of h0 hv) (q v z hz hvz)
/-! ### comprehensions over data -/
theorem y_lcC {α β : Type} {cx : Cod α} {cy : Cod β} {zs : List α} {ns : List Nat} (f : α → Option β) (S : Sy e B H L) (h : At (.list cx) K B (.ref a) zs) (hn : zs.length ≤ 100000)
    (hs : ∀ (i : Nat) z x B1 H1 D acc (Kp : VK) (Kn : Hp → Prop), zs[i]? = some z → Same B B1 → At cx K B1 x z → Sy e B1 H1 ((D, .lst acc) :: L) →
      (∀ y w B4 H4, f z = some w → Same B1 B4 → At cy K B4 y w → Sy e B4 H4 ((D, .lst acc) :: L) → Kp y H4) → (∀ B4 H4, f z = none → Same B1 B4 → Sy e B4 H4 ((D, .lst acc) :: L) → Kn H4) →
      g x (wipe σ ns) H1 fun σ2 H2 => wipe σ2 ns = wipe σ ns ∧ tt σ2 H2 fun b H3 => if b = true then te σ2 H3 Kp else Kn H3)
    (hd : ∀ D B' H' acc, Same B B' → e.H D = none → Paired (At cy K B') acc (zs.filterMap f) → Sy e B' H' ((D, .lst acc) :: L) → Q (.ref D) H') : LcG (Itl K a) g tt te ns σ Q H := by
  obtain ⟨vs, h2, h3⟩ := at_list_ref h
  have hl : vs.length = zs.length := h3.length
  refine y_lcRel (At cy K) at_up (walk_list (xs := vs)) S (by omega) (fun i => zs[i]?.bind f) (fun B1 H1 D acc b1 S1 => S1.l (up_l b1 h2)) (fun i x B1 H1 H1' acc D Kp Kn hi b1 S1 hy kp kn => ?_) (fun B1 H1 acc D b1 hD hp S1 => ?_)
  · obtain ⟨rfl, e2⟩ := hy
    obtain ⟨z, hz, hxz⟩ := pr_getL h3 e2
    exact hs i z x B1 _ D acc Kp Kn hz b1 (hxz.up b1) S1 (fun y w B4 H4 e1 => kp y w B4 H4 (by rw [hz]; exact e1)) (fun B4 H4 e1 => kn B4 H4 (by rw [hz]; exact e1))
  · rw [hl, range_bind] at hp
    exact hd D B1 H1 acc b1 hD hp S1
/-- .. the result is changed no more -/
theorem y_lcI {α β : Type} {cx : Cod α} {cy : Cod β} {zs : List α} {ns : List Nat} (f : α → Option β) (S : Sy e B H L) (h : At (.list cx) K B (.ref a) zs) (hn : zs.length ≤ 100000)
    (hs : ∀ (i : Nat) z x B1 H1 D acc (Kp : VK) (Kn : Hp → Prop), zs[i]? = some z → Same B B1 → At cx K B1 x z → Sy e B1 H1 ((D, .lst acc) :: L) →
      (∀ y w B4 H4, f z = some w → Same B1 B4 → At cy K B4 y w → Sy e B4 H4 ((D, .lst acc) :: L) → Kp y H4) → (∀ B4 H4, f z = none → Same B1 B4 → Sy e B4 H4 ((D, .lst acc) :: L) → Kn H4) →
      g x (wipe σ ns) H1 fun σ2 H2 => wipe σ2 ns = wipe σ ns ∧ tt σ2 H2 fun b H3 => if b = true then te σ2 H3 Kp else Kn H3)
    (hd : ∀ D B' H', Same B B' → e.H D = none → At (.list cy) K B' (.ref D) (zs.filterMap f) → Sy e B' H' L → Q (.ref D) H') : LcG (Itl K a) g tt te ns σ Q H := by
  refine y_lcC f S h hn hs fun D B1 H1 acc b1 hD hp S1 => ?_
  obtain ⟨b2, S2⟩ := S1.freeze hD
  exact hd D _ H1 (b1.trans b2) hD (.list (sqL upd_same) (pr_up at_up b2 hp)) S2
/-- one thing for each round; the ledger moves -/
theorem y_lcGen {β : Type} (c : Cod β) {J : It} {n : Nat} {G : Hp → Prop} {Y : Nat → Hp → V → Hp → Prop} {ns : List Nat} (good : β → Prop) (PL : Nat → Led → Prop) (w : Walk J n G Y) (S : Sy e B H L) (hn : n ≤ 100000) (h0 : PL 0 L)
    (hG : ∀ i B1 H1 D acc L1, Same B B1 → PL i L1 → Sy e B1 H1 ((D, .lst acc) :: L1) → G H1)
    (hs : ∀ i x B1 H1 H1' acc D L1 (Kp : VK) (Kn : Hp → Prop), i < n → Same B B1 → PL i L1 → Sy e B1 H1 ((D, .lst acc) :: L1) → Y i H1 x H1' →
      (∀ y z B4 H4 L4, good z → Same B1 B4 → At c K B4 y z → PL (i + 1) L4 → Sy e B4 H4 ((D, .lst acc) :: L4) → Kp y H4) →
      g x (wipe σ ns) H1' fun σ2 H2 => wipe σ2 ns = wipe σ ns ∧ tt σ2 H2 fun b H3 => if b = true then te σ2 H3 Kp else Kn H3)
    (hd : ∀ B1 H1 acc D L1 zs, Same B B1 → e.H D = none → zs.length = n → (∀ z ∈ zs, good z) → Paired (At c K B1) acc zs → PL n L1 → Sy e B1 H1 ((D, .lst acc) :: L1) → Q (.ref D) H1) : LcG J g tt te ns σ Q H := by
  refine y_lcG w S (fun i B1 acc L1 => PL i L1 ∧ i ≤ n ∧ ∃ zs : List β, zs.length = i ∧ (∀ z ∈ zs, good z) ∧ Paired (At c K B1) acc zs) ⟨h0, Nat.zero_le _, [], rfl, fun z h => (by cases h), .nil⟩ ?_ ?_ ?_
  · rintro i B1 H1 acc L1 D ⟨h1, _⟩ b1 S1
    exact hG i B1 H1 D acc L1 b1 h1 S1
  · rintro i x B1 H1 H1' acc L1 D Kp Kn hi ⟨h1, _, zs, e1, hg, hp⟩ b1 hD S1 hy kp kn
    refine hs i x B1 H1 H1' acc D L1 Kp Kn hi b1 h1 S1 hy (fun y z B4 H4 L4 gz b4 hy4 hP S4 => ?_)
    have hal : acc.length = i := by rw [← e1]; exact hp.length
    refine kp y H4 ⟨B4, acc, L4, S4, b1.trans b4, Nat.lt_of_lt_of_le (Nat.lt_of_le_of_lt (Nat.le_of_eq hal) hi) (Nat.le_trans hn (by rw [sizeLine_eq]; decide)), hP, hi, zs ++ [z], by simp [e1], fun q hq => ?_, Paired.snoc (pr_up at_up b4 hp) hy4⟩
    rcases List.mem_append.mp hq with hq | hq
    · exact hg q hq
    · have : q = z := by simpa using hq
      rw [this]; exact gz
  · rintro B1 H1 acc L1 D ⟨h1, _, zs, e1, hg, hp⟩ b1 hD S1
    exact hd B1 H1 acc D L1 zs b1 hD e1 hg hp h1 S1
/-! ### loops over data -/
theorem y_forC {α : Type} {c : Cod α} {zs : List α} (Pv : Nat → L2.St → Hp → Prop) (h : At (.list c) K B (.ref a) zs) (h0 : Pv 0 σ H) (hG : ∀ i σ H, i ≤ zs.length → Pv i σ H → ∃ B' L', Same B B' ∧ Sy e B' H L')
    (hs : ∀ i x z σ H, zs[i]? = some z → At c K B x z → Pv i σ H → g x σ H fun σ2 H2 => tb ⟨Pv (i + 1), rt, nx, Pv (i + 1)⟩ σ2 H2) (hd : ∀ σ H, Pv zs.length σ H → nx σ H) : ForG (Itl K a) g tb ⟨nx, rt, bk, ct⟩ σ H := by
  obtain ⟨vs, h2, h3⟩ := at_list_ref h
  have hl : vs.length = zs.length := h3.length
  refine y_forL (xs := vs) Pv h0 (fun i σ H hi hp => ?_) (fun i x σ H hx hp => ?_) (fun σ H hp => hd σ H (by rw [← hl]; exact hp))
  · obtain ⟨B', L', b, S⟩ := hG i σ H (by omega) hp
    exact S.l (up_l b h2)
  · obtain ⟨z, hz, hxz⟩ := pr_getL h3 hx
    exact hs i x z σ H hz hxz hp
/-! ### texts -/
theorem y_m0 {r : V → List V → Hp → VK → Prop} (h : to σ H fun x H1 => (∃ a, x = .str a) ∧ r x [] H1 Q) : tM0 r to σ H Q := h
theorem y_m1 {r : V → List V → Hp → VK → Prop} (h : to σ H fun x H1 => (∃ a, x = .str a) ∧ te σ H1 fun y H2 => r x [y] H2 Q) : tM1 r to te σ H Q := h
def rJoin (K : PySem.W.Frag) : V → List V → Hp → VK → Prop := fun x xs H Q => ∃ a p, ∃ ys : List Str, x = .str a ∧ xs = [.ref p] ∧ (SqL K H p (ys.map V.str) ∨ SqT K H p (ys.map V.str)) ∧ (ys.map (·.length)).sum + ys.length * a.length ≤ 16777216 ∧ Q (.str (Txt.join a ys)) H
theorem pe_joinU {X : Cx} {o e : Expr} {to te : TE} {apos pos : Pos} (hK : X.K = K) (ho : PE X o to) (he : PE X e te) (hs : starEach [e] X.env = [(false, eval e X.env)] := by rfl) (hbase : attributeBase o "join" X.env (eval o X.env) = eval o X.env := by rfl) (hline : (apos.endLine == pos.line) = true := by rfl) :
    PE X (.Call (.Attribute o "join" apos) [e] [] pos) (tM1 (rJoin K) to te) := hK ▸ pe_join ho he hs hbase hline
def rFind : V → List V → Hp → VK → Prop := fun x xs H Q => ∃ a b, x = .str a ∧ xs = [.str b] ∧ Q (.int (Txt.find a b)) H
theorem mt_findU {X : Cx} : MtR X "str.find" rFind := mt_find
def rSIndex : V → List V → Hp → VK → Prop := fun x xs H Q => ∃ a b i rest, x = .str a ∧ xs = [.str b] ∧ Builtin.Str.occurrences a b 0 a.length 1 = i :: rest ∧ Q (.int (i : Nat)) H
theorem mt_sindexU {X : Cx} : MtR X "str.index" rSIndex := mt_sindex
theorem strs_of : ∀ {vs : List V} {zs : List Str}, Paired (At .str K B) vs zs → vs = zs.map V.str
  | _, _, .nil => rfl
  | _, _, .cons h t => by rw [at_str h, strs_of t]; rfl
theorem ints_of : ∀ {vs : List V} {zs : List Int}, Paired (At .int K B) vs zs → vs = zs.map V.int
  | _, _, .nil => rfl
  | _, _, .cons h t => by rw [at_int h, ints_of t]; rfl
theorem bools_of : ∀ {vs : List V} {zs : List Bool}, Paired (At .bool K B) vs zs → vs = zs.map V.bl
  | _, _, .nil => rfl
  | _, _, .cons h t => by rw [at_bool h, bools_of t]; rfl
theorem y_join {z : Str} {zs : List Str} (h : SqL K H p (zs.map V.str)) (hl : (zs.map (·.length)).sum + zs.length * z.length ≤ 16777216) (q : Q (.str (Txt.join z zs)) H) : rJoin K (.str z) [.ref p] H Q := ⟨z, p, zs, rfl, rfl, .inl h, hl, q⟩
/-! ### kinds -/
/-- a value of a built-in kind -/
inductive Kd (K : PySem.W.Frag) (B : Hp) : V → String → Prop where
  | non : Kd K B .non "NoneType"
  | bl (b : Bool) : Kd K B (.bl b) "bool"
  | int (i : Int) : Kd K B (.int i) "int"
  | str (z : Str) : Kd K B (.str z) "str"
  | lst {a : Addr} {xs : List V} (h : SqL K B a xs) : Kd K B (.ref a) "list"
  | tup {a : Addr} {xs : List V} (h : SqT K B a xs) : Kd K B (.ref a) "tuple"
  | dic {a : Addr} {kvs : List (Key × V)} (h : Rd B a (.dK kvs)) : Kd K B (.ref a) "dict"
theorem Kd.up {s : String} (b : Sub B B') (h : Kd K B v s) : Kd K B' v s := by
  cases h with
  | non => exact .non
  | bl b => exact .bl b
  | int i => exact .int i
  | str z => exact .str z
  | lst h => exact .lst (b.l h)
  | tup h => exact .tup (b.t h)
  | dic h => exact .dic (b.rd h)
theorem Kd.ty {s : String} (h : Kd K H v s) : TyX K H v (.type s) := by
  cases h with
  | non => exact .base .non
  | bl b => exact .base (.bl b)
  | int i => exact .base (.int i)
  | str z => exact .base (.str z)
  | lst h =>
    rcases h with h | ⟨o, its, n, h1, h2, _⟩
    · rcases h with h | ⟨ob, h⟩
      · exact .base (.lst h)
      · exact .base (.frz h)
    · exact .kList h1 h2
  | tup h =>
    rcases h with h | ⟨o, its, n, h1, h2, _⟩
    · rcases h with h | ⟨ob, h⟩
      · exact .base (.tup h)
      · exact .fTuple h
    · exact .kTuple h1 h2
  | dic h =>
    rcases h with h | ⟨ob, h⟩
    · exact .base (.dK h)
    · exact .fDict h
theorem y_isi {s t : String} {r : Bool} (h : Kd K H x s) (hr : kitB s t = some r) (q : Q (.bl r) H) : rIsi K [x, .ty t] H Q := ⟨x, .ty t, .type s, .type t, r, rfl, .ty t, h.ty, kit_ty hr, q⟩
def kdOf : PyData → String
  | .none => "NoneType"
  | .bool _ => "bool"
  | .int _ => "int"
  | .str _ => "str"
  | .list _ => "list"
  | .tuple _ => "tuple"
  | .dict _ => "dict"
theorem Kd.of {d : PyData} (h : Dp K B v d) : Kd K B v (kdOf d) := by
  cases h with
  | non => exact .non
  | bl b => exact .bl b
  | int i => exact .int i
  | str z => exact .str z
  | lst h _ => exact .lst h
  | tup h _ => exact .tup h
end

/-! ### the wider operators by kinds -/
section
variable {K : PySem.W.Frag} {H : Hp} {Q : VK} {x y : V}
theorem z_eqI {i j : Int} (q : Q (.bl (decide (V.int i = V.int j))) H) : rEqZ K (.int i) (.int j) H Q := .inl (y_eqI q)
theorem z_eqS {i j : Str} (q : Q (.bl (decide (V.str i = V.str j))) H) : rEqZ K (.str i) (.str j) H Q := .inl (y_eqS q)
theorem z_neI {i j : Int} (q : Q (.bl (!decide (V.int i = V.int j))) H) : rNeZ K (.int i) (.int j) H Q := .inl (y_neI q)
theorem z_neS {i j : Str} (q : Q (.bl (!decide (V.str i = V.str j))) H) : rNeZ K (.str i) (.str j) H Q := .inl (y_neS q)
theorem z_eqE {a b : Addr} {xs : List V} (h1 : SqL K H a xs) (h2 : SqL K H b []) (q : Q (.bl xs.isEmpty) H) : rEqZ K (.ref a) (.ref b) H Q := .inl (y_eqE h1 h2 q)
theorem z_neE {a b : Addr} {xs : List V} (h1 : SqL K H a xs) (h2 : SqL K H b []) (q : Q (.bl (!xs.isEmpty)) H) : rNeZ K (.ref a) (.ref b) H Q := .inl (y_neE h1 h2 q)
theorem z_neNI {i : Int} (q : Q (.bl true) H) : rNeZ K .non (.int i) H Q := .inl (.inl ⟨rfl, q⟩)
theorem z_neIN {i : Int} (q : Q (.bl true) H) : rNeZ K (.int i) .non H Q := .inl (.inl ⟨rfl, q⟩)
theorem z_neNN (q : Q (.bl false) H) : rNeZ K .non .non H Q := .inl (.inl ⟨rfl, q⟩)
theorem z_neB {i j : Bool} (q : Q (.bl (!decide (V.bl i = V.bl j))) H) : rNeZ K (.bl i) (.bl j) H Q := .inl (.inl ⟨rfl, q⟩)
theorem z_eqB {i j : Bool} (q : Q (.bl (decide (V.bl i = V.bl j))) H) : rEqZ K (.bl i) (.bl j) H Q := .inl (.inl ⟨rfl, q⟩)
theorem z_inSg {c : Nat} {z : Str} (q : Q (.bl (decide (c ∈ z.cps.toList))) H) : rInZ K (.str ⟨#[c]⟩) (.str z) H Q := .inl (y_inSg q)
theorem z_notInSg {c : Nat} {z : Str} (q : Q (.bl (!decide (c ∈ z.cps.toList))) H) : rNotInZ K (.str ⟨#[c]⟩) (.str z) H Q := .inl (y_notInSg q)
theorem z_inD {a : Addr} {kvs : List (Key × V)} {k : Key} (h : Rd H a (.dK kvs)) (hk : x = kV k) (q : Q (.bl (valV kvs k).isSome) H) : rInZ K x (.ref a) H Q := .inl (y_inD h hk q)
theorem z_notInD {a : Addr} {kvs : List (Key × V)} {k : Key} (h : Rd H a (.dK kvs)) (hk : x = kV k) (q : Q (.bl (!(valV kvs k).isSome)) H) : rNotInZ K x (.ref a) H Q := .inl (y_notInD h hk q)
end
/-- {k: v} -/
theorem y_disp1 {σ : L2.St} {e : En} {B H : Hp} {L : Led} {Q : VK} {tk tv : TE} (S : Sy e B H L) (h : ∀ p H1, e.H p = none → Sy e B H1 ((p, .dK []) :: L) → tk σ H1 fun x H2 => tv σ H2 fun y H3 => ∃ B3 kk, x = kV kk ∧ Sy e B3 H3 ((p, .dK []) :: L) ∧ ∀ H4, Sy e B3 H4 ((p, .dK [(kk, y)]) :: L) → Q (.ref p) H4)
    (mk : ∀ (H : Hp) (Q Q' : VK), (∀ x H, Q x H → Q' x H) → tk σ H Q → tk σ H Q') (mv : ∀ (H : Hp) (Q Q' : VK), (∀ x H, Q x H → Q' x H) → tv σ H Q → tv σ H Q') : tDisp [(tk, tv)] σ H Q := by
  intro p hp
  obtain ⟨h1, S1⟩ := S.newM (o := .dK []) hp
  refine mk _ _ _ (fun x H2 q => ?_) (h p _ h1 S1)
  refine mv _ _ _ (fun y H3 q => ?_) q
  obtain ⟨B3, kk, rfl, S3, q⟩ := q
  exact ⟨S3.g0, [(kk, y)], rfl, by simp, q _ (S3.w0 _)⟩
theorem tC_mono {σ : L2.St} {v : V} : ∀ (H : Hp) (Q Q' : VK), (∀ x H, Q x H → Q' x H) → tC v σ H Q → tC v σ H Q' := fun H Q Q' h q => h _ _ q
/-- a comprehension that leaves out, over a list of the ledger -/
theorem y_lcP {α : Type} {K : PySem.W.Frag} {σ : L2.St} {e : En} {B H : Hp} {L : Led} {Q : VK} {te : TE} {tt : TT} {g : TG} {a : Addr} {ws : List V} {zs : List α} {ns : List Nat} {R : Hp → V → α → Prop} (up : ∀ B B' v z, Same B B' → R B v z → R B' v z) (p : α → Bool) (n : Nat) (S : Sy e B H L) (h : L[n]? = some (a, .lst ws)) (hp : Paired (R B) ws zs) (hn : zs.length ≤ 100000)
    (hs : ∀ (i : Nat) z x B1 H1 D acc (Kp : VK) (Kn : Hp → Prop), zs[i]? = some z → Same B B1 → R B1 x z → Sy e B1 H1 ((D, .lst acc) :: L) →
      (∀ H4, p z = true → Sy e B1 H4 ((D, .lst acc) :: L) → Kp x H4) → (∀ H4, p z = false → Sy e B1 H4 ((D, .lst acc) :: L) → Kn H4) →
      g x (wipe σ ns) H1 fun σ2 H2 => wipe σ2 ns = wipe σ ns ∧ tt σ2 H2 fun b H3 => if b = true then te σ2 H3 Kp else Kn H3)
    (hd : ∀ D B' H' acc, Same B B' → e.H D = none → Paired (R B') acc (zs.filter p) → Sy e B' H' ((D, .lst acc) :: L) → Q (.ref D) H') : LcG (Itl K a) g tt te ns σ Q H := by
  have hl : ws.length = zs.length := hp.length
  refine y_lcRel R up (walk_list (xs := ws)) S (by omega) (fun i => zs[i]?.bind fun z => if p z = true then some z else none) (fun B1 H1 D acc b1 S1 => sqL (S1.at (n + 1) (by simpa using h))) (fun i x B1 H1 H1' acc D Kp Kn hi b1 S1 hy kp kn => ?_) (fun B1 H1 acc D b1 hD hq S1 => ?_)
  · obtain ⟨rfl, e2⟩ := hy
    obtain ⟨z, hz, hxz⟩ := pr_getL hp e2
    refine hs i z x B1 _ D acc Kp Kn hz b1 (up _ _ _ _ b1 hxz) S1 (fun H4 e1 S4 => kp x z B1 H4 (by rw [hz]; exact if_pos e1) (Same.refl _) (up _ _ _ _ b1 hxz) S4) (fun H4 e1 S4 => kn B1 H4 (by rw [hz]; exact if_neg (by rw [e1]; exact Bool.false_ne_true)) (Same.refl _) S4)
  · rw [hl, range_bind, fm_if] at hq
    exact hd D B1 H1 acc b1 hD hq S1
end Y
/-! Texts as lists of signs; keys. -/
namespace Y
open PySem PySem.Spec PyProof.Rows L2
/-- the signs of a text -/
abbrev sg (z : Str) : List Nat := z.cps.toList
theorem sg_len (z : Str) : (sg z).length = z.length := by simp [sg, Str.length]
theorem sg_ext {x y : Str} (h : sg x = sg y) : x = y := TL.ext_tl h
theorem sg_app (x y : Str) : sg (x ++ y) = sg x ++ sg y := TL.tl_append x y
theorem sg_one (c : Nat) : sg ⟨#[c]⟩ = [c] := rfl
theorem len_app (x y : Str) : (x ++ y).length = x.length + y.length := by rw [← sg_len, sg_app, List.length_append, sg_len, sg_len]
theorem len_one (c : Nat) : (⟨#[c]⟩ : Str).length = 1 := rfl
theorem sg_cut (z : Str) (lo hi : Option Int) : sg (cutS z lo hi) = ((sg z).drop (HT.sIx z.length 0 lo)).take (HT.sIx z.length z.length hi - HT.sIx z.length 0 lo) := rfl
theorem sg_cutTo (z : Str) {i : Int} (h : 0 ≤ i) : sg (cutS z none (some i)) = (sg z).take i.toNat := by
  rw [sg_cut]
  obtain ⟨n, rfl⟩ := Int.eq_ofNat_of_zero_le h
  rw [HT.sIx_none, HT.sIx_nat, List.drop_zero, Nat.sub_zero, Int.toNat_natCast, ← sg_len]
  by_cases c : n ≤ (sg z).length
  · rw [Nat.min_eq_left c]
  · rw [Nat.min_eq_right (by omega), List.take_length, List.take_of_length_le (by omega)]
theorem sg_cutFrom (z : Str) {i : Int} (h : 0 ≤ i) : sg (cutS z (some i) none) = (sg z).drop i.toNat := by
  rw [sg_cut]
  obtain ⟨n, rfl⟩ := Int.eq_ofNat_of_zero_le h
  rw [HT.sIx_none, HT.sIx_nat, Int.toNat_natCast, ← sg_len]
  by_cases c : n ≤ (sg z).length
  · rw [Nat.min_eq_left c]
    exact List.take_of_length_le (by rw [List.length_drop]; exact Nat.le_refl _)
  · rw [Nat.min_eq_right (by omega), List.drop_length, List.drop_of_length_le (by omega)]
    simp
theorem len_cut (z : Str) (lo hi : Option Int) : (cutS z lo hi).length ≤ z.length := cutS_length z lo hi
theorem len_cutTo (z : Str) {i : Int} (h : 0 ≤ i) : (cutS z none (some i)).length = min i.toNat z.length := by rw [← sg_len, sg_cutTo z h, List.length_take, sg_len]
theorem len_cutFrom (z : Str) {i : Int} (h : 0 ≤ i) : (cutS z (some i) none).length = z.length - i.toNat := by rw [← sg_len, sg_cutFrom z h, List.length_drop, sg_len]
theorem mem_cut {z : Str} {lo hi : Option Int} {c : Nat} (h : c ∈ sg (cutS z lo hi)) : c ∈ sg z := List.mem_of_mem_drop (List.mem_of_mem_take h)
theorem joinL_nil : ∀ ps : List (List Nat), TL.joinL [] ps = ps.flatten
  | [] => rfl
  | [p] => by simp [TL.joinL]
  | p :: q :: r => by
    rw [TL.joinL, joinL_nil (q :: r)]
    simp
theorem sg_glue {e : Str} (he : sg e = []) (zs : List Str) : sg (Txt.join e zs) = (zs.map sg).flatten := by
  show TL.tl (Txt.join e zs) = _
  rw [TL.join_eq, TL.tl_join, show TL.tl e = [] from he, joinL_nil]
/-- small letters -/
def Letters (z : Str) : Prop := ∀ c ∈ sg z, 97 ≤ c ∧ c ≤ 122
def KeyE (z : Str) : Prop := z.length ≤ 8 ∧ Letters z
def KeyS (z : Str) : Prop := (1 ≤ z.length ∧ z.length ≤ 8) ∧ Letters z
theorem KeyS.e {z : Str} (h : KeyS z) : KeyE z := ⟨h.1.2, h.2⟩
theorem Letters.app {x y : Str} (h1 : Letters x) (h2 : Letters y) : Letters (x ++ y) := fun c hc => by
  rw [sg_app] at hc
  rcases List.mem_append.mp hc with hc | hc
  · exact h1 c hc
  · exact h2 c hc
theorem Letters.cut {x : Str} {lo hi : Option Int} (h : Letters x) : Letters (cutS x lo hi) := fun c hc => h c (mem_cut hc)
theorem Letters.one {c : Nat} (h : 97 ≤ c ∧ c ≤ 122) : Letters ⟨#[c]⟩ := fun d hd => by
  have : d = c := by simpa [sg] using hd
  rw [this]; exact h
theorem flat_one : ∀ {zs : List Str}, (∀ z ∈ zs, ∃ c, z = ⟨#[c]⟩ ∧ 97 ≤ c ∧ c ≤ 122) → ((zs.map sg).flatten).length = zs.length ∧ ∀ c ∈ (zs.map sg).flatten, 97 ≤ c ∧ c ≤ 122
  | [], _ => ⟨rfl, fun c h => by cases h⟩
  | z :: zs, h => by
    obtain ⟨c, rfl, hc⟩ := h z List.mem_cons_self
    obtain ⟨h1, h2⟩ := flat_one (zs := zs) fun z hz => h z (List.mem_cons_of_mem _ hz)
    refine ⟨by rw [List.map_cons, List.flatten_cons, List.length_append, h1]; simp [sg]; omega, fun d hd => ?_⟩
    rw [List.map_cons, List.flatten_cons] at hd
    rcases List.mem_append.mp hd with hd | hd
    · have : d = c := by simpa [sg] using hd
      rw [this]; exact hc
    · exact h2 d hd
theorem sum_one : ∀ {zs : List Str}, (∀ z ∈ zs, ∃ c, z = ⟨#[c]⟩ ∧ 97 ≤ c ∧ c ≤ 122) → (zs.map (·.length)).sum = zs.length
  | [], _ => rfl
  | z :: zs, h => by
    obtain ⟨c, rfl, hc⟩ := h z List.mem_cons_self
    rw [List.map_cons, List.sum_cons, sum_one fun z hz => h z (List.mem_cons_of_mem _ hz), List.length_cons, len_one]
    omega
/-- single letters glued -/
theorem glue_letters {e : Str} {zs : List Str} (he : sg e = []) (h : ∀ z ∈ zs, ∃ c, z = ⟨#[c]⟩ ∧ 97 ≤ c ∧ c ≤ 122) : (Txt.join e zs).length = zs.length ∧ Letters (Txt.join e zs) := by
  obtain ⟨h1, h2⟩ := flat_one h
  refine ⟨by rw [← sg_len, sg_glue he]; exact h1, fun c hc => ?_⟩
  rw [sg_glue he] at hc
  exact h2 c hc
/-- a sign of a written text -/
theorem y_ixSM {K : PySem.W.Frag} {H : Hp} {Q : VK} {z : Str} {i : Int} (hz : z.length ≤ 100000) (h0 : 0 ≤ i) (h1 : i < z.length) (q : ∀ c, c ∈ sg z → (sg z)[i.toNat]? = some c → Q (.str ⟨#[c]⟩) H) : rIxU K (.str z) (.int i) H Q := by
  obtain ⟨c, hc⟩ : ∃ c, (sg z)[i.toNat]? = some c := ⟨_, List.getElem?_eq_getElem (show i.toNat < (sg z).length by rw [sg_len]; omega)⟩
  exact y_ixS (lenOk hz) (atI_of h0 hc) (q c (List.mem_of_getElem? hc) hc)
theorem ltr_of {c : Nat} (h : c ∈ sg "abcdefghijklmnopqrstuvwxyz") : 97 ≤ c ∧ c ≤ 122 := by
  have all : ∀ c ∈ sg ("abcdefghijklmnopqrstuvwxyz" : Str), 97 ≤ c ∧ c ≤ 122 := by decide +kernel
  exact all c h
theorem ltr_iff {c : Nat} : c ∈ sg "abcdefghijklmnopqrstuvwxyz" ↔ 97 ≤ c ∧ c ≤ 122 := by
  refine ⟨ltr_of, fun h => ?_⟩
  have all : ∀ k : Fin 26, 97 + k.val ∈ sg ("abcdefghijklmnopqrstuvwxyz" : Str) := by decide +kernel
  have := all ⟨c - 97, by omega⟩
  rw [show 97 + (c - 97) = c by omega] at this
  exact this
theorem occ_ltr {c : Nat} (h : 97 ≤ c ∧ c ≤ 122) : Builtin.Str.occurrences "abcdefghijklmnopqrstuvwxyz" ⟨#[c]⟩ 0 ("abcdefghijklmnopqrstuvwxyz" : Str).length 1 = [c - 97] := by
  have all : ∀ k : Fin 26, Builtin.Str.occurrences "abcdefghijklmnopqrstuvwxyz" ⟨#[97 + k.val]⟩ 0 ("abcdefghijklmnopqrstuvwxyz" : Str).length 1 = [k.val] := by decide +kernel
  have := all ⟨c - 97, by omega⟩
  rw [show 97 + (c - 97) = c by omega] at this
  exact this
theorem find_ltr {c : Nat} (h : 97 ≤ c ∧ c ≤ 122) : Txt.find "abcdefghijklmnopqrstuvwxyz" ⟨#[c]⟩ = ((c - 97 : Nat) : Int) := by
  unfold Txt.find
  rw [occ_ltr h]
/-- a key, told by a Bool -/
def keyB (z : Str) : Bool := decide (1 ≤ z.length) && decide (z.length ≤ 8) && (sg z).all fun c => decide (c ∈ sg "abcdefghijklmnopqrstuvwxyz")
theorem keyB_iff {z : Str} : keyB z = true ↔ KeyS z := by
  unfold keyB KeyS Letters
  rw [Bool.and_eq_true, Bool.and_eq_true, decide_eq_true_eq, decide_eq_true_eq, List.all_eq_true]
  simp only [decide_eq_true_eq, ltr_iff]
/-- a comprehension over a text's signs -/
theorem y_lcStr {β : Type} {cy : Cod β} {K : PySem.W.Frag} {σ : L2.St} {e : En} {B H : Hp} {L : Led} {Q : VK} {te : TE} {tt : TT} {g : TG} {z : Str} {ns : List Nat} (f : Nat → Option β) (S : Sy e B H L) (hn : z.length ≤ 100000)
    (hs : ∀ c B1 H1 D acc (Kp : VK) (Kn : Hp → Prop), c ∈ sg z → Same B B1 → Sy e B1 H1 ((D, .lst acc) :: L) →
      (∀ y w B4 H4, f c = some w → Same B1 B4 → At cy K B4 y w → Sy e B4 H4 ((D, .lst acc) :: L) → Kp y H4) → (∀ B4 H4, f c = none → Same B1 B4 → Sy e B4 H4 ((D, .lst acc) :: L) → Kn H4) →
      g (.str ⟨#[c]⟩) (wipe σ ns) H1 fun σ2 H2 => wipe σ2 ns = wipe σ ns ∧ tt σ2 H2 fun b H3 => if b = true then te σ2 H3 Kp else Kn H3)
    (hd : ∀ D B' H', Same B B' → e.H D = none → At (.list cy) K B' (.ref D) ((sg z).filterMap f) → Sy e B' H' L → Q (.ref D) H') : LcG (Its z) g tt te ns σ Q H := by
  have hl : (sg z).length = z.cps.size := by simp [sg]
  refine y_lcRel (At cy K) at_up walk_str S (by rw [← hl, sg_len]; exact hn) (fun i => (sg z)[i]?.bind f) (fun B1 H1 D acc b1 S1 => trivial) (fun i x B1 H1 H1' acc D Kp Kn hi b1 S1 hy kp kn => ?_) (fun B1 H1 acc D b1 hD hp S1 => ?_)
  · obtain ⟨rfl, c, e2, rfl⟩ := hy
    have hc : (sg z)[i]? = some c := by rw [← e2]; simp [sg]
    exact hs c B1 _ D acc Kp Kn (List.mem_of_getElem? hc) b1 S1 (fun y w B4 H4 e1 => kp y w B4 H4 (by rw [hc]; exact e1)) (fun B4 H4 e1 => kn B4 H4 (by rw [hc]; exact e1))
  · rw [← hl, range_bind] at hp
    obtain ⟨b2, S2⟩ := S1.freeze hD
    exact hd D _ H1 (b1.trans b2) hD (.list (sqL upd_same) (pr_up at_up b2 hp)) S2
end Y
/-! Own classes: methods by their promises, fields, new instances. -/
namespace Y
open PySem PySem.Spec PyProof.Rows L2
/-- the method m of the class at C keeps the promise sp; the last ones by their defaults -/
def OkM (P : Program) (w : World) (K : PySem.W.Frag) (mg : Str → Option Value) (base : Heap) (C : Addr) (k : Nat) (m : Str) (ps : List Str) (dvs : List V) (sp : Sp) : Prop :=
  ∃ f fd ds, Meth K C m f ∧ Vals dvs ds ∧ Binds K fd ps ds ∧ FnOk P w K mg base CX0 k f fd ps sp
def OkMN (P : Program) (w : World) (K : PySem.W.Frag) (mg : Str → Option Value) (base : Heap) (C : Addr) (k : Nat) (m : Str) (ps : List Str) (n : Nat) (ks : List Str) (gV : List V → List V → List V) (sp : Sp) : Prop :=
  ∃ f fd g, Meth K C m f ∧ KBn K fd ps n ks g gV ∧ FnOk P w K mg base CX0 k f fd ps sp
/-- .. the making of an instance -/
def OkI (P : Program) (w : World) (K : PySem.W.Frag) (mg : Str → Option Value) (base : Heap) (C : Addr) (k : Nat) (x : Str) (ps : List Str) (dvs : List V) (sp : Sp) : Prop :=
  ∃ f fd ds, Mk K C f ∧ mg x = some (.ref C) ∧ Vals dvs ds ∧ Binds K fd ps ds ∧ FnOk P w K mg base CX0 k f fd ps sp
def OkIN (P : Program) (w : World) (K : PySem.W.Frag) (mg : Str → Option Value) (base : Heap) (C : Addr) (k : Nat) (x : Str) (ps : List Str) (n : Nat) (ks : List Str) (gV : List V → List V → List V) (sp : Sp) : Prop :=
  ∃ f fd g, Mk K C f ∧ mg x = some (.ref C) ∧ KBn K fd ps n ks g gV ∧ FnOk P w K mg base CX0 k f fd ps sp
/-- o.m(.., k = v, ..) -/
def tMethN (C : Addr) (m : Str) (n q : Nat) (sp : Sp) (gV : List V → List V → List V) (E : XK) (ta : TE) (t tk : TA) : TE := fun σ H Q => ta σ H fun x H1 => ∃ a dx fs, x = .ref a ∧ H1 a = some (.ins C dx fs) ∧ fs.lookup m = none ∧
  t σ H1 fun vs H2 => tk σ H2 fun zs H3 => (x :: vs).length = n ∧ zs.length = q ∧ sp (gV (x :: vs) zs) H3 Q E
section
variable {X : Cx} {k n : Nat} {C : Addr} {m x : Str} {ps ks : List Str} {sp : Sp} {apos pos p : Pos} {o e : Expr} {es : List Expr} {ta : TE} {t tk : TA} {dvs : List V} {gV : List V → List V → List V} {kws : List Keyword} {pl : Sem Bool}
theorem pe_mO (O : OkM X.prog X.w X.K X.mg X.base C k m ps dvs sp) (c : Cls X.K C) (hr : Room k X.A) (he : PE X o ta) (ha : PA X (e :: es) t)
    (hst : starEach (e :: es) X.env = (false, eval e X.env) :: starEach es X.env := by rfl) (hpl : (backTo pos (starEach es X.env)).any (·.1) = false := by rfl)
    (ht : eval (.Call (.Attribute o m apos) (e :: es) [] pos) X.env = (do
      let ov ← eval o X.env
      standAt apos.atName
      let (f, first) ← holding [ov] (getMethod ov m pl)
      callWith pos f first (backTo pos (starEach (e :: es) X.env)) (backToKw pos (keywordEach [] X.env))) := by rfl) :
    PE X (.Call (.Attribute o m apos) (e :: es) [] pos) (tMeth C m sp dvs E0 ta t) := by
  obtain ⟨f, fd, ds, h1, h2, h3, h4⟩ := O
  exact pe_meth he c h1 h4 hr h3 h2 pass0 ha hst hpl ht
theorem pe_mO0 (O : OkM X.prog X.w X.K X.mg X.base C k m ps dvs sp) (c : Cls X.K C) (hr : Room k X.A) (he : PE X o ta)
    (ht : eval (.Call (.Attribute o m apos) [] [] pos) X.env = (do
      let ov ← eval o X.env
      standAt apos.atName
      let (f, first) ← holding [ov] (getMethod ov m pl)
      callWith pos f first (backTo pos (starEach [] X.env)) (backToKw pos (keywordEach [] X.env))) := by rfl) :
    PE X (.Call (.Attribute o m apos) [] [] pos) (tMeth C m sp dvs E0 ta tNil) := by
  obtain ⟨f, fd, ds, h1, h2, h3, h4⟩ := O
  exact pe_meth0 he c h1 h4 hr h3 h2 pass0 ht
theorem pe_mON (O : OkMN X.prog X.w X.K X.mg X.base C k m ps n ks gV sp) (c : Cls X.K C) (hr : Room k X.A) (he : PE X o ta) (ha : PA X (e :: es) t) (hkw : PK X kws tk)
    (hall : (backToKw pos (keywordEach kws X.env)).all (·.1.isSome) = true := by rfl) (hks : (backToKw pos (keywordEach kws X.env)).filterMap (·.1) = ks := by rfl)
    (hst : starEach (e :: es) X.env = (false, eval e X.env) :: starEach es X.env := by rfl) (hpl : ((backTo pos (starEach (e :: es) X.env)).any (·.1) || (backToKw pos (keywordEach kws X.env)).any (·.1.isNone)) = false := by rfl)
    (ht : eval (.Call (.Attribute o m apos) (e :: es) kws pos) X.env = (do
      let ov ← eval o X.env
      standAt apos.atName
      let (f, first) ← holding [ov] (getMethod ov m pl)
      callWith pos f first (backTo pos (starEach (e :: es) X.env)) (backToKw pos (keywordEach kws X.env))) := by rfl) :
    PE X (.Call (.Attribute o m apos) (e :: es) kws pos) (tMethN C m n ks.length sp gV E0 ta t tk) := by
  obtain ⟨f, fd, g, hm, hb, F⟩ := O
  refine ⟨fun pins s σ H Q I h => ?_⟩
  refine PySem.W.methodCall_KW (pl := pl) (thn (he.run pins s σ H _ I h) fun u s1 ⟨x, H1, I1, rx, a, dx, fs, ex, ea, l, q⟩ => ?_) ht
  subst ex
  obtain rfl : u = Value.ref a := rx
  refine getmeth_ok I1 ea c hm l ?_
  refine PySem.W.callWith_KW (first := [.ref a]) (h₀ := X.base) I.ok.mod.kin hm.kp hall (thn (ha.run pos pins s1 σ H1 _ I1 q) fun us s2 ⟨vs, H2, I2, r, q2⟩ => ?_) hpl hst
  refine thn (hkw.run pos pins s2 σ H2 _ I2 q2) fun ws s3 ⟨zs, H3, I3, rz, l1, l2, q3⟩ => ⟨I3.kIn, ?_⟩
  rw [hks]
  exact run_fnN (us := .ref a :: us) (vs := .ref a :: vs) F hr hb pass0 I3 (.cons rfl r) rz l1 l2 q3
theorem pe_mON0 (O : OkMN X.prog X.w X.K X.mg X.base C k m ps n ks gV sp) (c : Cls X.K C) (hr : Room k X.A) (he : PE X o ta) (hkw : PK X kws tk)
    (hall : (backToKw pos (keywordEach kws X.env)).all (·.1.isSome) = true := by rfl) (hks : (backToKw pos (keywordEach kws X.env)).filterMap (·.1) = ks := by rfl)
    (hpl : ((backTo pos (starEach [] X.env)).any (·.1) || (backToKw pos (keywordEach kws X.env)).any (·.1.isNone)) = false := by rfl)
    (ht : eval (.Call (.Attribute o m apos) [] kws pos) X.env = (do
      let ov ← eval o X.env
      standAt apos.atName
      let (f, first) ← holding [ov] (getMethod ov m pl)
      callWith pos f first (backTo pos (starEach [] X.env)) (backToKw pos (keywordEach kws X.env))) := by rfl) :
    PE X (.Call (.Attribute o m apos) [] kws pos) (tMethN C m n ks.length sp gV E0 ta tNil tk) := by
  obtain ⟨f, fd, g, hm, hb, F⟩ := O
  refine ⟨fun pins s σ H Q I h => ?_⟩
  refine PySem.W.methodCall_KW (pl := pl) (thn (he.run pins s σ H _ I h) fun u s1 ⟨x, H1, I1, rx, a, dx, fs, ex, ea, l, q⟩ => ?_) ht
  subst ex
  obtain rfl : u = Value.ref a := rx
  refine getmeth_ok I1 ea c hm l ?_
  refine PySem.W.callWith_KW0 (first := [.ref a]) (h₀ := X.base) I.ok.mod.kin hm.kp hall ?_ hpl
  refine thn (hkw.run pos pins s1 σ H1 _ I1 q) fun ws s3 ⟨zs, H3, I3, rz, l1, l2, q3⟩ => ⟨I3.kIn, ?_⟩
  rw [hks]
  exact run_fnN (us := .ref a :: []) (vs := .ref a :: []) F hr hb pass0 I3 (.cons rfl .nil) rz l1 l2 q3
/-- C(..) -/
theorem pe_iO (O : OkI X.prog X.w X.K X.mg X.base C k x ps dvs sp) (hr : Room (k + 1) X.A) (hg : Gl X x) (ha : PA X (e :: es) t) (hdb : (x == ("__debug__" : Str)) = false := by decide) (he : starEach (e :: es) X.env = (false, eval e X.env) :: starEach es X.env := by rfl)
    (hpl : (backTo pos (starEach es X.env)).any (·.1) = false := by rfl) : PE X (.Call (.Name x p) (e :: es) [] pos) (tMake C sp dvs E0 t) := by
  obtain ⟨f, fd, ds, h1, h0, h2, h3, h4⟩ := O
  exact pe_make h1 h4 hr hg h0 h3 h2 pass0 ha hdb he hpl
theorem pe_iO0 (O : OkI X.prog X.w X.K X.mg X.base C k x ps dvs sp) (hr : Room (k + 1) X.A) (hg : Gl X x) (hdb : (x == ("__debug__" : Str)) = false := by decide) : PE X (.Call (.Name x p) [] [] pos) (tMake C sp dvs E0 tNil) := by
  obtain ⟨f, fd, ds, h1, h0, h2, h3, h4⟩ := O
  exact pe_make0 h1 h4 hr hg h0 h3 h2 pass0 hdb
theorem pe_iON0 (O : OkIN X.prog X.w X.K X.mg X.base C k x ps 1 ks gV sp) (hr : Room (k + 1) X.A) (hg : Gl X x) (hkw : PK X kws tk)
    (hall : (backToKw pos (keywordEach kws X.env)).all (·.1.isSome) = true := by rfl) (hks : (backToKw pos (keywordEach kws X.env)).filterMap (·.1) = ks := by rfl) (hdb : (x == ("__debug__" : Str)) = false := by decide)
    (hpl : ((backTo pos (starEach [] X.env)).any (·.1) || (backToKw pos (keywordEach kws X.env)).any (·.1.isNone)) = false := by rfl) :
    PE X (.Call (.Name x p) [] kws pos) (tMakeK C 0 ks.length sp gV E0 tNil tk) := by
  obtain ⟨f, fd, g, h1, h0, h3, h4⟩ := O
  exact pe_makeK0 h1 h4 hr hg h0 h3 pass0 hkw hall hks hdb hpl
end
/-! ### fields of a class that is known -/
def tFldC (C : Addr) (ta : TE) (f : Str) : TE := fun σ H Q => ta σ H fun x H1 => ∃ a dx fs v, x = .ref a ∧ H1 a = some (.ins C dx fs) ∧ fs.lookup f = some v ∧ Q v H1
def sFldC (C : Addr) (ta tv : TE) (f : Str) : TS := fun D σ H => tv σ H fun y H1 => ta σ H1 fun x H2 => ∃ a dx fs, x = .ref a ∧ H2 a = some (.ins C dx fs) ∧ fs.length < 1000 ∧ D.nx σ (upd H2 a (.ins C dx (putF f y fs)))
def sFldAugC (C : Addr) (ta tv : TE) (rd : V → V → Hp → VK → Prop) (f : Str) : TS := fun D σ H => ta σ H fun x H1 => ∃ a dx fs v, x = .ref a ∧ H1 a = some (.ins C dx fs) ∧ fs.lookup f = some v ∧
  tv σ H1 fun y H2 => rd v y H2 fun z H3 => ∃ dx' fs', H3 a = some (.ins C dx' fs') ∧ fs'.length < 1000 ∧ D.nx σ (upd H3 a (.ins C dx' (putF f z fs')))
section
variable {X : Cx} {C : Addr} {o e value : Expr} {f : Str} {pos pos' tpos : Pos} {ta tv : TE}
theorem pe_fldC (c : Cls X.K C) (n : NoAttr X.K C f) (he : PE X e ta) (hb : attributeBase e f X.env (eval e X.env) = eval e X.env := by rfl) : PE X (.Attribute e f pos) (tFldC C ta f) := by
  refine ⟨fun pins s σ H Q I h => ?_⟩
  refine attr_of hb (thn (he.run pins s σ H _ I h) fun u s1 ⟨x, H1, I1, rx, a, dx, fs, v, ex, ea, l, q⟩ => ?_)
  subst ex
  obtain rfl : u = Value.ref a := rx
  exact getattr_ok I1 ea c n l fun u' s2 I2 ru => ⟨v, H1, I2, ru, q⟩
theorem ps_fldC (c : Cls X.K C) (n : NoAttr X.K C f) (ha : PE X o ta) (hv : PE X value tv) (hs : swapsWith value (some (.Attribute o f pos')) pos.line X.env = pure false := by rfl) : PS X (.Assign [.Attribute o f pos'] value pos) (sFldC C ta tv f) := by
  refine ⟨fun pins s σ H D I h => ?_⟩
  refine plainObj_wpAny_Assign_Attribute (thn (hv.run pins s σ H _ I h) fun u s1 ⟨y, H1, I1, ry, q⟩ => thn (ha.run pins s1 σ H1 _ I1 q) fun ov s2 ⟨x, H2, I2, rx, a, dx, fs, ex, ea, l, q2⟩ => ?_) hs
  subst ex
  obtain rfl : ov = Value.ref a := rx
  exact setattr_ok I2 ea c n l ry fun s3 I3 => ⟨σ, _, I3, q2⟩
theorem ps_fldaugC {op : Operator} {rd : V → V → Hp → VK → Prop} (c : Cls X.K C) (n : NoAttr X.K C f) (ha : PE X o ta) (hv : PE X value tv) (hop : InOp X op rd) : PS X (.AugAssign (.Attribute o f tpos) op value pos) (sFldAugC C ta tv rd f) := by
  refine ⟨fun pins s σ H D I h => ?_⟩
  refine wpAny_AugAssign_AttributeAny (thn (ha.run pins s σ H _ I h) fun ov s1 ⟨x, H1, I1, rx, a, dx, fs, v, ex, ea, l, q⟩ => ?_)
  subst ex
  obtain rfl : ov = Value.ref a := rx
  refine getattr_ok I1 ea c n l fun u s2 I2 ru => thn (hv.run pins s2 σ H1 _ I2 q) fun w3 s3 ⟨y, H2, I3, ry, q3⟩ => thn (hop pins s3 σ H2 v y u w3 _ I3 ru ry q3) fun w4 s4 ⟨z, H3, I4, rz, dx', fs', ea', l', q4⟩ => ?_
  exact setattr_ok I4 ea' c n l' rz fun s5 I5 => ⟨σ, _, I5, q4⟩
end
/-! ### the walk over these -/
section
variable {K : PySem.W.Frag} {σ : L2.St} {e : En} {B B' H : Hp} {L : Led} {Q : VK} {E : XK} {ta tv : TE} {t tk : TA} {v x y : V} {vs zs : List V} {a dx C : Addr} {f m : Str} {fs : List (Str × V)} {nx bk ct : L2.St → Hp → Prop} {rt : VK} {sp : Sp} {dvs : List V} {gV : List V → List V → List V} {φ : Ph} {n q : Nat}
def FldK (C : Addr) (f : Str) (Q : VK) : VK := fun x H1 => ∃ a dx fs v, x = .ref a ∧ H1 a = some (.ins C dx fs) ∧ fs.lookup f = some v ∧ Q v H1
theorem y_fld (h : ta σ H (FldK C f Q)) : tFldC C ta f σ H Q := h
theorem y_fldK (h : H a = some (.ins C dx fs)) (hl : fs.lookup f = some v) (q : Q v H) : FldK C f Q (.ref a) H := ⟨a, dx, fs, v, rfl, h, hl, q⟩
def SFldK (C : Addr) (f : Str) (y : V) (N : Hp → Prop) : VK := fun x H2 => ∃ a dx fs, x = .ref a ∧ H2 a = some (.ins C dx fs) ∧ fs.length < 1000 ∧ N (upd H2 a (.ins C dx (putF f y fs)))
theorem y_sfld (h : tv σ H fun y H1 => ta σ H1 (SFldK C f y (nx σ))) : sFldC C ta tv f ⟨nx, rt, bk, ct⟩ σ H := h
theorem y_sfldK {N : Hp → Prop} {fs' : List (Str × V)} (i : Nat) (S : Sy e B H L) (h : L[i]? = some (a, .ins C dx fs)) (hl : fs.length < 1000) (hp : putF f y fs = fs') (k : ∀ H', Sy e B H' (L.set i (a, .ins C dx fs')) → N H') : SFldK C f y N (.ref a) H := ⟨a, dx, fs, rfl, S.at i h, hl, by rw [hp]; exact k _ (S.wr i h _)⟩
def AFldK (C : Addr) (f : Str) (tv : TE) (rd : V → V → Hp → VK → Prop) (σ : L2.St) (N : Hp → Prop) : VK := fun x H1 => ∃ a dx fs v, x = .ref a ∧ H1 a = some (.ins C dx fs) ∧ fs.lookup f = some v ∧
  tv σ H1 fun y H2 => rd v y H2 fun z H3 => ∃ dx' fs', H3 a = some (.ins C dx' fs') ∧ fs'.length < 1000 ∧ N (upd H3 a (.ins C dx' (putF f z fs')))
theorem y_afld {rd : V → V → Hp → VK → Prop} (h : ta σ H (AFldK C f tv rd σ (nx σ))) : sFldAugC C ta tv rd f ⟨nx, rt, bk, ct⟩ σ H := h
/-- o.f += a number that is written -/
theorem y_afldI {N : Hp → Prop} {fs' : List (Str × V)} {i j : Int} (k : Nat) (S : Sy e B H L) (h : L[k]? = some (a, .ins C dx fs)) (hv : fs.lookup f = some (.int i)) (hl : fs.length < 1000) (hp : putF f (.int (i + j)) fs = fs') (q : ∀ H', Sy e B H' (L.set k (a, .ins C dx fs')) → N H') : AFldK C f (tC (.int j)) rAdd σ N (.ref a) H :=
  ⟨a, dx, fs, .int i, rfl, S.at k h, hv, i, j, rfl, rfl, dx, fs, S.at k h, hl, by rw [hp]; exact q _ (S.wr k h _)⟩
def MthK (C : Addr) (m : Str) (t : TA) (σ : L2.St) (sp : Sp) (dvs : List V) (E : XK) (Q : VK) : VK := fun x H1 => ∃ a dx fs, x = .ref a ∧ H1 a = some (.ins C dx fs) ∧ fs.lookup m = none ∧ t σ H1 fun vs H2 => sp (x :: (vs ++ dvs)) H2 Q E
theorem y_meth (h : ta σ H (MthK C m t σ sp dvs E Q)) : tMeth C m sp dvs E ta t σ H Q := h
theorem y_mthK (h : H a = some (.ins C dx fs)) (hl : fs.lookup m = none) (q : t σ H fun vs H2 => sp (.ref a :: (vs ++ dvs)) H2 Q E) : MthK C m t σ sp dvs E Q (.ref a) H := ⟨a, dx, fs, rfl, h, hl, q⟩
def MthNK (C : Addr) (m : Str) (n q : Nat) (t tk : TA) (σ : L2.St) (sp : Sp) (gV : List V → List V → List V) (E : XK) (Q : VK) : VK := fun x H1 => ∃ a dx fs, x = .ref a ∧ H1 a = some (.ins C dx fs) ∧ fs.lookup m = none ∧
  t σ H1 fun vs H2 => tk σ H2 fun zs H3 => (x :: vs).length = n ∧ zs.length = q ∧ sp (gV (x :: vs) zs) H3 Q E
theorem y_methN (h : ta σ H (MthNK C m n q t tk σ sp gV E Q)) : tMethN C m n q sp gV E ta t tk σ H Q := h
/-- the values of a call with names -/
theorem y_mthNK (h : H a = some (.ins C dx fs)) (hl : fs.lookup m = none) (k : t σ H fun vs H2 => tk σ H2 fun zs H3 => CallNK n q sp gV E Q (.ref a :: vs) zs H3) : MthNK C m n q t tk σ sp gV E Q (.ref a) H := ⟨a, dx, fs, rfl, h, hl, k⟩
/-- a new instance -/
def MakK (C : Addr) (sp : Sp) (dvs : List V) (E : XK) (Q : VK) : List V → Hp → Prop := fun vs H1 => ∀ x dx, H1 x = none → H1 dx = none → dx ≠ x → sp (.ref x :: (vs ++ dvs)) (upd (upd H1 dx (.own x)) x (.ins C dx [])) (fun v H2 => v = .non ∧ Q (.ref x) H2) E
theorem y_make (h : t σ H (MakK C sp dvs E Q)) : tMake C sp dvs E t σ H Q := h
theorem Sy.newObj {x : Addr} (S : Sy e B H L) (hx : H x = Option.none) (hd : H dx = Option.none) (hne : dx ≠ x) : ∃ B', Same B B' ∧ e.H x = Option.none ∧ Sy e B' (upd (upd H dx (.own x)) x (.ins C dx [])) ((x, .ins C dx []) :: L) := by
  obtain ⟨b1, S1⟩ := S.newI (o := .own x) hd
  obtain ⟨h2, S2⟩ := S1.newM (p := x) (o := .ins C dx []) (by rw [upd_ne (fun z => hne z.symm)]; exact hx)
  exact ⟨_, b1, h2, S2⟩
theorem y_makK (S : Sy e B H L) (h : ∀ x dx B' H', Same B B' → e.H x = none → Sy e B' H' ((x, .ins C dx []) :: L) → φ B' (.ref x :: (vs ++ dvs)) [(x, .ins C dx [])] fun B2 v L2 => ∀ H2, Sy ⟨[x], [], B', H'⟩ B2 H2 L2 → v = .non ∧ Q (.ref x) H2) : MakK C (spY φ) dvs E Q vs H := by
  intro x dx hx hd hne
  obtain ⟨B', b, he, S'⟩ := S.newObj (C := C) hx hd hne
  exact ⟨B', [(x, .ins C dx [])], S'.hand1, h x dx B' _ b he S'⟩
def MakNK (C : Addr) (sp : Sp) (gV : List V → List V → List V) (E : XK) (Q : VK) (vs zs : List V) : Hp → Prop := fun H1 => ∀ x dx, H1 x = none → H1 dx = none → dx ≠ x → sp (gV (.ref x :: vs) zs) (upd (upd H1 dx (.own x)) x (.ins C dx [])) (fun v H2 => v = .non ∧ Q (.ref x) H2) E
theorem y_makeN (h : t σ H fun vs H1 => tk σ H1 fun zs H2 => vs.length = n ∧ zs.length = q ∧ MakNK C sp gV E Q vs zs H2) : tMakeK C n q sp gV E t tk σ H Q := h
theorem y_makNK (S : Sy e B H L) (h : ∀ x dx B' H', Same B B' → e.H x = none → Sy e B' H' ((x, .ins C dx []) :: L) → φ B' (gV (.ref x :: vs) zs) [(x, .ins C dx [])] fun B2 v L2 => ∀ H2, Sy ⟨[x], [], B', H'⟩ B2 H2 L2 → v = .non ∧ Q (.ref x) H2) : MakNK C (spY φ) gV E Q vs zs H := by
  intro x dx hx hd hne
  obtain ⟨B', b, he, S'⟩ := S.newObj (C := C) hx hd hne
  exact ⟨B', [(x, .ins C dx [])], S'.hand1, h x dx B' _ b he S'⟩
/-- a call, handed the first part of the ledger -/
theorem y_spG {R : Led} (S : Sy e B H (L ++ R)) (h : φ B vs L fun B' v L' => ∀ H', Sy ⟨L.map (·.1), [], B, H⟩ B' H' L' → Q v H') : spY φ vs H Q E := ⟨B, L, S.hand, h⟩
/-- the ledger in another order -/
theorem perm_ix {α : Type} : ∀ (L : List α), ((List.range L.length).filterMap fun i => L[i]?) = L := by
  intro L
  have := range_bind (fun x : α => some x) L
  simpa using this
theorem Sy.ix (S : Sy e B H L) (is : List Nat) {n : Nat} (hn : L.length = n) (h : is.Perm (List.range n)) : Sy e B H (is.filterMap fun i => L[i]?) := by
  subst hn
  refine S.perm ?_
  have h1 := (h.symm.filterMap fun i => L[i]?)
  rwa [perm_ix] at h1
end
/-! ### a def's body, its name told -/
section
variable {P : Program} {w : World} {K : PySem.W.Frag} {mg : Str → Option Value} {base : Heap} {x qual : Str} {st : Stmt} {kws : List (Str × V)} {N ps : List Str} {k : Nat} {φ : Ph} {f : Addr} {dvs : List V}
theorem fnM {fd : FuncData} (F : FunD K x qual (defArgs st) (defBody st) (defScope st) dvs kws f fd) (S : FnScope N ps (defScope st)) (len : ∀ B vs L k, φ B vs L k → vs.length = ps.length)
    (body : ∀ (cdv : Value) (A : Around) (outer : List Env) (s : Shared) (H : Hp) (vs : List V) (Q : VK) (E : XK) (B : Hp) (L : Led) (e : En), e.Z = [] → e.H = H → Room k (A.deeper (envOfC qual (defScope st) s.heap.objs.size f cdv)) → Sy e B H L →
      (φ B vs L fun B' v L' => ∀ H', Sy e B' H' L' → Q v H') →
      ∃ t, PSs (cxOf CX0 P w K mg base N qual (defScope st) f cdv A outer s H E).nox (defBody st) t ∧ t ⟨fun _ H' => Q .non H', Q, fun _ _ => False, fun _ _ => False⟩ (start N vs) H) : FnOk P w K mg base CX0 (k + 1) f fd ps (spY φ) := by
  refine F.ok S (fun vs H Q E h => ?_) (fun cdv A outer s H vs Q E hr h => ?_)
  · obtain ⟨B, L, _, h⟩ := h
    exact len _ _ _ _ h
  · obtain ⟨B, L, hh, h⟩ := h
    obtain ⟨t, h1, h2⟩ := body cdv A outer s H vs Q E B L _ rfl rfl hr hh.start h
    exact ⟨t, PSs.nox h1, h2⟩
variable {C : Addr} {m : Str} {sp : Sp}
/-- every parameter by place, no defaults -/
theorem OkM.of (F : ∃ fd, FunD K x qual (defArgs st) (defBody st) (defScope st) [] kws f fd) (g : Meth K C m f)
    (hb : ∀ (kV doc pm : Value) (an : Option Addr) (cdv ct : Value) (us : List Value), us.length = ps.length → bindArgs (PySem.W.fnOf x qual (defArgs st) (defBody st) (defScope st) .none kV doc pm an cdv ct) ⟨us, []⟩ = pure (ps.zip us))
    (h : ∀ fd, FunD K x qual (defArgs st) (defBody st) (defScope st) [] kws f fd → FnOk P w K mg base CX0 k f fd ps sp) : OkM P w K mg base C k m ps [] sp := by
  obtain ⟨fd, F⟩ := F
  exact ⟨f, fd, [], g, .nil, F.bindsN hb, h fd F⟩
/-- with defaults: n are written, the defaults from the j-th on fill up -/
theorem OkM.ofD (n j : Nat) (F : ∃ fd, FunD K x qual (defArgs st) (defBody st) (defScope st) dvs kws f fd) (g : Meth K C m f) (hd : dvs ≠ []) (hn : n + (dvs.length - j) = ps.length)
    (hb : ∀ (T : Addr) (kV doc pm : Value) (an : Option Addr) (cdv ct : Value) (us its : List Value), us.length = n → its.length = dvs.length →
      ∃ kk, bindArgs (PySem.W.fnOf x qual (defArgs st) (defBody st) (defScope st) (.ref T) kV doc pm an cdv ct) ⟨us, []⟩ = seqItems? (.ref T) >>= kk ∧ kk (some its.toArray) = pure (ps.zip (us ++ its.drop j)))
    (h : ∀ fd, FunD K x qual (defArgs st) (defBody st) (defScope st) dvs kws f fd → FnOk P w K mg base CX0 k f fd ps sp) : OkM P w K mg base C k m ps (dvs.drop j) sp := by
  obtain ⟨fd, F⟩ := F
  obtain ⟨ds, h1, h2⟩ := F.binds1 n j hd hn hb
  exact ⟨f, fd, ds, g, h1, h2, h fd F⟩
/-- keyword-only ones left out -/
theorem OkM.ofK (n : Nat) (F : ∃ fd, FunD K x qual (defArgs st) (defBody st) (defScope st) [] kws f fd) (g : Meth K C m f) (hk : kws ≠ []) (hn : n + kws.length = ps.length)
    (hb : ∀ (D : Addr) (doc pm : Value) (an : Option Addr) (cdv ct : Value) (us ks : List Value), us.length = n → ks.length = kws.length →
      KwChain D ((kws.map (·.1)).zip ks) (bindArgs (PySem.W.fnOf x qual (defArgs st) (defBody st) (defScope st) .none (.ref D) doc pm an cdv ct) ⟨us, []⟩) (ps.zip (us ++ ks)))
    (h : ∀ fd, FunD K x qual (defArgs st) (defBody st) (defScope st) [] kws f fd → FnOk P w K mg base CX0 k f fd ps sp) : OkM P w K mg base C k m ps (kws.map (·.2)) sp := by
  obtain ⟨fd, F⟩ := F
  obtain ⟨ds, h1, h2⟩ := F.binds0 n hk hn hb
  exact ⟨f, fd, ds, g, h1, h2, h fd F⟩
/-- n by place, ks by name, no defaults needed -/
theorem OkMN.of {n : Nat} {ks : List Str} (gA : {α : Type} → List α → List α → List α) (F : ∃ fd, FunD K x qual (defArgs st) (defBody st) (defScope st) [] kws f fd) (g : Meth K C m f)
    (rel : ∀ {vs zs : List V} {us ws : List Value}, Vals vs us → Vals zs ws → Vals (gA vs zs) (gA us ws))
    (hb : ∀ (kV doc pm : Value) (an : Option Addr) (cdv ct : Value) (us ws : List Value), us.length = n → ws.length = ks.length → bindArgs (PySem.W.fnOf x qual (defArgs st) (defBody st) (defScope st) .none kV doc pm an cdv ct) ⟨us, ks.zip ws⟩ = pure (ps.zip (gA us ws)))
    (h : ∀ fd, FunD K x qual (defArgs st) (defBody st) (defScope st) [] kws f fd → FnOk P w K mg base CX0 k f fd ps sp) : OkMN P w K mg base C k m ps n ks (fun vs zs => gA vs zs) sp := by
  obtain ⟨fd, F⟩ := F
  refine ⟨f, fd, fun us ws => gA us ws, g, ⟨fun s us ws _ h1 h2 => ?_, rel⟩, h fd F⟩
  obtain ⟨oc, od, dV, kV, doc, pm, an, cdv, ct, osl, rfl, lk, hcd, hD, hK⟩ := F.ex
  rcases hD with ⟨_, rfl⟩ | ⟨e, _⟩
  · exact .of_eq (hb kV doc pm an cdv ct us ws h1 h2)
  · exact absurd rfl e
/-- .. with defaults -/
theorem OkMN.ofD {n : Nat} {ks : List Str} (gA : {α : Type} → List α → List α → List α → List α) (F : ∃ fd, FunD K x qual (defArgs st) (defBody st) (defScope st) dvs kws f fd) (g : Meth K C m f) (hd : dvs ≠ [])
    (rel : ∀ {vs zs ds : List V} {us ws is : List Value}, Vals vs us → Vals zs ws → Vals ds is → Vals (gA vs zs ds) (gA us ws is))
    (hb : ∀ (T : Addr) (kV doc pm : Value) (an : Option Addr) (cdv ct : Value) (us ws its : List Value), us.length = n → ws.length = ks.length → its.length = dvs.length →
      ∃ kk, bindArgs (PySem.W.fnOf x qual (defArgs st) (defBody st) (defScope st) (.ref T) kV doc pm an cdv ct) ⟨us, ks.zip ws⟩ = seqItems? (.ref T) >>= kk ∧ kk (some its.toArray) = pure (ps.zip (gA us ws its)))
    (h : ∀ fd, FunD K x qual (defArgs st) (defBody st) (defScope st) dvs kws f fd → FnOk P w K mg base CX0 k f fd ps sp) : OkMN P w K mg base C k m ps n ks (fun vs zs => gA vs zs dvs) sp := by
  obtain ⟨fd, F⟩ := F
  have hf := h fd F
  obtain ⟨oc, od, dV, kV, doc, pm, an, cdv, ct, osl, rfl, lk, hcd, hD, hK⟩ := F.ex
  rcases hD with ⟨e, _⟩ | ⟨_, T, o, its, m, rfl, lT, oT, rT⟩
  · exact absurd e hd
  · refine ⟨f, _, fun us ws => gA us ws its, g, ⟨fun s us ws X h1 h2 => ?_, fun r1 r2 => rel r1 r2 rT⟩, hf⟩
    obtain ⟨kk, e1, e2⟩ := hb T kV doc pm an cdv ct us ws its h1 h2 rT.length.symm
    refine BindsTo.of_looks fun M => ?_
    rw [e1]
    exact looks_items X lT oT (.of_pure e2)
/-- the making: from the same facts of __init__ as a method -/
theorem OkM.mk (O : OkM P w K mg base C k "__init__" ps dvs sp) (M : Mk K C f) (g : mg x = some (.ref C)) : OkI P w K mg base C k x ps dvs sp := by
  obtain ⟨f', fd, ds, h1, h2, h3, h4⟩ := O
  have e : f' = f := by
    have := h1.at_.symm.trans M.init
    cases this
    rfl
  subst e
  exact ⟨f', fd, ds, M, g, h2, h3, h4⟩
theorem OkMN.mk {n : Nat} {ks : List Str} {gV : List V → List V → List V} (O : OkMN P w K mg base C k "__init__" ps n ks gV sp) (M : Mk K C f) (g : mg x = some (.ref C)) : OkIN P w K mg base C k x ps n ks gV sp := by
  obtain ⟨f', fd, gg, h1, h2, h3⟩ := O
  have e : f' = f := by
    have := h1.at_.symm.trans M.init
    cases this
    rfl
  subst e
  exact ⟨f', fd, gg, M, g, h2, h3⟩
end
/-! ### len(o) by an own __len__ -/
section
variable {X : Cx} {n : Nat} {C : Addr} {ps : List Str} {sp : Sp}
def rLenO (C : Addr) (sp : Sp) : List V → Hp → VK → Prop := fun xs H Q => ∃ a dx fs, xs = [.ref a] ∧ H a = some (.ins C dx fs) ∧ sp [.ref a] H (fun v H' => ∃ k : Nat, v = .int k ∧ k < 2 ^ 62 ∧ Q (.int k) H') E0
theorem call_lenO (O : OkM X.prog X.w X.K X.mg X.base C n "__len__" ps [] sp) (hr : Room (n + 1) X.A) : CallR X (.builtin "len") (rLenO C sp) := by
  obtain ⟨f, fd, ds, hm, hd, hb, F⟩ := O
  cases hd
  intro pins s σ H xs us Q I r h
  obtain ⟨a, dx, fs, rfl, ha, hsp⟩ := h
  obtain ⟨u, rfl, ru⟩ := vals1 r
  obtain rfl : u = Value.ref a := ru
  obtain ⟨mA, J, _⟩ := ins_get I.hok ha
  obtain ⟨od, J, _⟩ := J.look
  obtain ⟨m, hF⟩ := I.fr
  have e0 : Env0 X.prog X.w X.K X.mg X.base X.A.in1 X.stack s H := I.env0.in1
  have hl := F.len _ _ _ _ hsp
  have r2 : Vals [V.ref a] [Value.ref a] := .cons rfl .nil
  refine PySem.W.len_K hF I.ok.mod.kin J hm.at_ hm.fn (wpAny_call (codeAny_mono (F.run X.A.in1 X.stack s H ⟨[.ref a], []⟩ [.ref a] [.ref a] _ E0 hr.in1 e0 (by
    have := hb s [.ref a] I.kIn (by simpa using hl)
    simpa using this) r2 hsp) fun r s' hq => ?_))
  cases r with
  | error e => exact pass0 pins σ H s e s' I hq
  | ok fl =>
    cases fl with
    | ret w =>
      obtain ⟨z, H', I', rz, k, rfl, hk, q⟩ := I.after hq
      obtain ⟨t, rfl⟩ := rz
      exact ⟨⟨by omega, by omega⟩, .int k, H', I'.tok _, ⟨_, rfl⟩, q⟩
    | next => exact False.elim hq
    | brk => exact False.elim hq
    | cont => exact False.elim hq
end
/-! ### dicts with written text keys -/
section
variable {K : PySem.W.Frag} {σ : L2.St} {e : En} {B B' H : Hp} {L : Led} {Q : VK} {trs : List (TE × TE)} {tk tv : TE} {v x y : V} {a d : Addr} {z : Str} {kvs kvs' : List (Key × V)}
theorem y_ixDS (h : H a = some (.dK kvs)) (hv : valV kvs (.inr z) = some v) (q : Q v H) : rIxU K (.ref a) (.str z) H Q := y_ixD (k := .inr z) (.inl h) rfl hv q
theorem y_setDS {N : Hp → Prop} (n : Nat) (S : Sy e B H L) (h : L[n]? = some (d, .dK kvs)) (hl : kvs.length < 100000) (hp : putK kvs (.inr z) v = kvs') (k : ∀ H', Sy e B H' (L.set n (d, .dK kvs')) → N H') : rSetU (.ref d) (.str z) v H N := y_setD n S h (kk := .inr z) rfl (lenLt hl) fun H' S' => k H' (by rw [← hp]; exact S')
def DispK (p : Addr) (Q : VK) : List (V × V) → Hp → Prop := fun ps H2 => H2 p = some (.dK []) ∧ ∃ kvs : List (Key × V), ps = kvs.map (fun kv => (kV kv.1, kv.2)) ∧ kvs.length ≤ 15 ∧ Q (.ref p) (upd H2 p (.dK (mergeK [] kvs)))
theorem y_disp (S : Sy e B H L) (h : ∀ p H1, e.H p = none → Sy e B H1 ((p, .dK []) :: L) → tPairs trs σ H1 (DispK p Q)) : tDisp trs σ H Q := fun p hp => by
  obtain ⟨h1, S1⟩ := S.newM (o := .dK []) hp
  exact h p _ h1 S1
theorem y_pcons {r : List (TE × TE)} {QP : List (V × V) → Hp → Prop} (h : tk σ H fun x H1 => tv σ H1 fun y H2 => tPairs r σ H2 fun ps H3 => QP ((x, y) :: ps) H3) : tPairs ((tk, tv) :: r) σ H QP := h
theorem y_pnil {QP : List (V × V) → Hp → Prop} (h : QP [] H) : tPairs [] σ H QP := h
theorem y_dispK {p : Addr} {ps : List (V × V)} (kvs : List (Key × V)) (n : Nat) (S : Sy e B H L) (h : L[n]? = some (p, .dK [])) (hk : ps = kvs.map fun kv => (kV kv.1, kv.2)) (hl : kvs.length ≤ 15) (hm : mergeK [] kvs = kvs') (k : ∀ H', Sy e B H' (L.set n (p, .dK kvs')) → Q (.ref p) H') : DispK p Q ps H := ⟨S.at n h, kvs, hk, hl, by rw [hm]; exact k _ (S.wr n h _)⟩
end
/-! ### tuples walked -/
section
variable {K : PySem.W.Frag} {σ : L2.St} {e : En} {B B' H : Hp} {L : Led} {te : TE} {xs : List V} {a : Addr} {R : It → Hp → Prop}
def TupK (K : PySem.W.Frag) (R : It → Hp → Prop) : VK := fun x H1 => ∃ a, x = .ref a ∧ (∃ xs, SqT K H1 a xs) ∧ R (Itt K a) H1
theorem y_itup (h : te σ H (TupK K R)) : iTup K te σ H R := h
theorem y_tupK (h : SqT K H a xs) (q : R (Itt K a) H) : TupK K R (.ref a) H := ⟨a, rfl, ⟨xs, h⟩, q⟩
end
end Y
/-! sorted(..) of data by their types. -/
namespace Y
open PySem PySem.Spec PyProof.Rows L2
/-- x goes no later than y -/
def leD (d e : PyData) : Bool := !PySem.W.dataLt e d
section
variable {X : Cx} {K : PySem.W.Frag}
/-- sorted(xs): zs what the items stand for -/
def rSortC (K : PySem.W.Frag) : List V → Hp → VK → Prop := fun vs H Q => ∃ (α : Type) (enc : α → PyData) (a : Addr) (xs : List V) (zs : List α), vs = [.ref a] ∧ SqL K H a xs ∧ DpAll K H xs (zs.map enc) ∧ PySem.W.AllAlike (zs.map enc) ∧ PySem.W.Sortable (zs.map enc) ∧ (∀ z ∈ zs, (enc z).depth ≤ 50) ∧
  NewK (.lst (((xs.zip zs).mergeSort fun p q => leD (enc p.2) (enc q.2)).map (·.1))) Q H
theorem each_zip {H : Hp} {α : Type} {enc : α → PyData} : ∀ {xs : List V} {its : List Value} {zs : List α}, Vals xs its → DpAll K H xs (zs.map enc) → PySem.W.EachIs (fun (v : Value) (b : V × α) => RelV b.1 v ∧ Dp K H b.1 (enc b.2)) its (xs.zip zs)
  | _, _, [], .nil, _ => .nil
  | _, _, [], .cons _ _, h => by cases h
  | _, _, _ :: _, .nil, h => by cases h
  | _, _, z :: zs, .cons r t, h => by
    cases h with
    | cons h1 h2 => exact .cons ⟨r, h1⟩ (each_zip t h2)
theorem vals_each {H : Hp} {α : Type} {enc : α → PyData} : ∀ {out : List Value} {bs : List (V × α)}, PySem.W.EachIs (fun (v : Value) (b : V × α) => RelV b.1 v ∧ Dp K H b.1 (enc b.2)) out bs → Vals (bs.map (·.1)) out
  | _, _, .nil => .nil
  | _, _, .cons r t => .cons r.1 (vals_each t)
theorem zip_snd {α : Type} {enc : α → PyData} {H : Hp} : ∀ {xs : List V} {zs : List α}, DpAll K H xs (zs.map enc) → (xs.zip zs).map (fun b => enc b.2) = zs.map enc ∧ xs.length = zs.length
  | _, [], h => by cases h; exact ⟨rfl, rfl⟩
  | _, z :: zs, h => by
    cases h with
    | cons h1 h2 =>
      obtain ⟨e1, e2⟩ := zip_snd h2
      exact ⟨by rw [List.zip_cons_cons, List.map_cons, e1]; rfl, by rw [List.length_cons, List.length_cons, e2]⟩
theorem cr_sortC (hK : X.K = K) (hu : X.A.units + 64 < cLine) : CallR X (.builtin "sorted") (rSortC K) := by
  subst hK
  intro pins s σ H vs us Q I r h
  obtain ⟨α, enc, a, xs, zs, rfl, hs, hd, hal, hk, hdp, q⟩ := h
  obtain ⟨its, rv, hl, hz⟩ := I.list hs
  obtain ⟨u, rfl, ru⟩ := vals1 r
  obtain rfl : u = Value.ref a := ru
  obtain ⟨e1, e2⟩ := zip_snd hd
  have ez := each_zip rv hd
  have hzl : (xs.zip zs).length = zs.length := by rw [List.length_zip, e2, Nat.min_self]
  refine PySem.W.sorted_data (enc := fun b : V × α => enc b.2) hl.isList ez (ez.mono fun v b hb => Dp.reads I _ b.1 v hb.2 hb.1) (by rw [e1]; exact hal) (by rw [e1]; exact hk) (by rw [hzl, ← e2]; exact hz) (fun b hb => ?_) fun out hlen ho => ?_
  · have hm : b.2 ∈ zs := (List.of_mem_zip (show (b.1, b.2) ∈ xs.zip zs from hb)).2
    have := hdp _ hm
    show X.A.units + 2 + (enc b.2).depth < cLine
    omega
  · obtain ⟨n, hn⟩ := sortedAll_at s.heap its out.toArray
    have hv := vals_each ho
    have hle : (PySem.W.dataLe false fun b : V × α => enc b.2) = fun p q => leD (enc p.2) (enc q.2) := rfl
    rw [hle] at hv
    refine ⟨.ref _, upd H (s.heap.objs.size + 1) (.lst _), I.laid (t' := s.toks) (fun _ _ => sortedAll_old) (Nat.le_succ _) ⟨?_, out, n, hv, hn⟩, rfl, q _ (I.hok.fresh (Nat.le_succ _))⟩
    rw [List.length_map, List.length_mergeSort, hzl, ← e2]
    exact hz
end
/-! ### seen from the walk -/
section
variable {K : PySem.W.Frag} {e : En} {B H : Hp} {L : Led} {Q : VK} {α : Type} {a : Addr} {xs : List V} {zs : List α}
theorem pr_zip {F : V → α → Prop} : ∀ {xs : List V} {zs : List α}, Paired F xs zs → ∀ b ∈ xs.zip zs, F b.1 b.2
  | _, _, .nil, b, h => by cases h
  | _, _, .cons r t, b, h => by
    rcases List.mem_cons.mp h with rfl | h
    · exact r
    · exact pr_zip t b h
theorem pr_maps {F : V → α → Prop} : ∀ {bs : List (V × α)}, (∀ b ∈ bs, F b.1 b.2) → Paired F (bs.map (·.1)) (bs.map (·.2))
  | [], _ => .nil
  | b :: bs, h => .cons (h b List.mem_cons_self) (pr_maps fun x hx => h x (List.mem_cons_of_mem _ hx))
theorem pr_sort {F : V → α → Prop} {le : α → α → Bool} (h : Paired F xs zs) : Paired F (((xs.zip zs).mergeSort fun p q => le p.2 q.2).map (·.1)) (zs.mergeSort le) := by
  have h1 := pr_maps (F := F) (bs := (xs.zip zs).mergeSort fun p q => le p.2 q.2) fun b hb => pr_zip h b ((List.mergeSort_perm _ _).mem_iff.mp hb)
  have e1 : ((xs.zip zs).mergeSort fun p q => le p.2 q.2).map (·.2) = zs.mergeSort le := by
    rw [List.map_mergeSort (s := le) (fun _ _ _ _ => rfl), List.map_snd_zip (Nat.le_of_eq h.length.symm)]
  rw [e1] at h1
  exact h1
/-- sorted(xs) of a type whose values are alike -/
theorem y_sortC (c : Cod α) (S : Sy e B H L) (h : SqL K H a xs) (hp : Paired (At c K B) xs zs) (hal : ∀ z ∈ zs, ∀ w ∈ zs, PySem.W.alike (c.enc z) (c.enc w) = true) (hk : PySem.W.Sortable (zs.map c.enc)) (hd : c.dep ≤ 50)
    (q : ∀ ys, Paired (At c K B) ys (zs.mergeSort fun z w => leD (c.enc z) (c.enc w)) → NewK (.lst ys) Q H) : rSortC K [.ref a] H Q := by
  refine ⟨α, c.enc, a, xs, zs, rfl, h, Sub.ds S.bh (dpAll_of hp), fun d hd d' hd' => ?_, hk, fun z _ => Nat.le_trans (c.dp z) hd, q _ (pr_sort (le := fun z w => leD (c.enc z) (c.enc w)) hp)⟩
  obtain ⟨z, hz, rfl⟩ := List.mem_map.mp hd
  obtain ⟨w, hw, rfl⟩ := List.mem_map.mp hd'
  exact hal z hz w hw
end
/-! ### sorted(..) of what is no list -/
section
variable {X : Cx} {α : Type} {enc : α → PyData} {T : String} {r d : Addr} {n : Nat} {P : Nat → Value → Prop} {OK : Heap → Prop}
theorem sorted_src (src : PySem.W.KdlSrc X.prog X.w T r d n P OK) (hc : X.calm = true) (hu : X.A.units + 64 < cLine) {pins : List (Addr × Obj)} {s : Shared} {σ : L2.St} {H : Hp} {Q : VK} (I : Inv X pins σ H s) (ok : OK s.heap) (hn : n ≤ sizeLine) {Good : List (V × α) → Prop}
    (ha : ∀ acc : Array Value, acc.size = n → (∀ j v, acc[j]? = some v → P j v) → ∃ bs : List (V × α), PySem.W.EachIs (fun (v : Value) (b : V × α) => RelV b.1 v ∧ Dp X.K H b.1 (enc b.2)) acc.toList bs ∧ Good bs)
    (hal : ∀ bs, Good bs → PySem.W.AllAlike (bs.map fun b => enc b.2)) (hk : ∀ bs, Good bs → PySem.W.Sortable (bs.map fun b => enc b.2)) (hdp : ∀ bs, Good bs → ∀ b ∈ bs, (enc b.2).depth ≤ 50)
    (q : ∀ bs, Good bs → NewK (.lst ((bs.mergeSort fun p q => leD (enc p.2) (enc q.2)).map (·.1))) Q H) : wpAny (model X.prog X.w) X.A (call (.builtin "sorted") [.ref r]) (EP X pins σ Q) X.xe s := by
  refine Calls.call_function_entry kind_sorted plain_sorted entry_sorted (args_sorted1 _) ?_
  unfold Builtin.«sorted»
  refine wpAny_bind (m := checkCount "sorted" 1 1 _) (wpAny_pure ?_)
  refine wpAny_bind (PySem.W.kdu_collect (A := X.A.in1) src (I.ok.hd hc) ok hn fun hp tk acc kp hit => ?_)
  obtain ⟨bs, eb, gd⟩ := ha acc hit.1 hit.2
  have hal1 : acc.toList.length ≤ sizeLine := by rw [Array.length_toList, hit.1]; exact hn
  have I1 : Inv X pins σ H { s with heap := hp, toks := tk } := I.kept kp
  refine wpAny_bind (wpAny_newList ?_ hal1)
  have hoL : (hp.push (seqObj "list" acc.toList.toArray 0)).get? hp.objs.size = some (seqObj "list" acc.toList.toArray 0) := Heap.get?_push_size _ rfl
  show wpAny _ _ _ _ _ { s with heap := hp.push (seqObj "list" acc.toList.toArray 0), toks := tk }
  have up : ∀ (b : Addr) (o : Obj), hp.get? b = some o → (PySem.W.sortingHeap (hp.push (seqObj "list" acc.toList.toArray 0)) hp.objs.size acc.toList).get? b = some o := fun b o e =>
    PySem.W.sortingHeap_old (Nat.ne_of_lt (Heap.lt_size e)) (Heap.get?_push_of_some _ e)
  have er : PySem.W.EachIs (fun (v : Value) (b : V × α) => ∃ as, Reads (PySem.W.sortingHeap (hp.push (seqObj "list" acc.toList.toArray 0)) hp.objs.size acc.toList) v (enc b.2) as) acc.toList bs := eb.mono fun v b hb => by
    obtain ⟨as, h1⟩ := Dp.reads I1 _ b.1 v hb.2 hb.1
    exact ⟨as, PyProof.Rows.Reads.keeps up h1⟩
  refine wpAny_bind (wpAny_holding (wpAny_call_entry slot_list_sort ⟨_, hoL, rfl⟩ entry_list_sort
    (PySem.W.list_sort_vals (s := { s with heap := hp.push (seqObj "list" acc.toList.toArray 0), toks := tk }) hoL
      (PySem.W.SortsAt.data (s := { s with heap := PySem.W.sortingHeap (hp.push (seqObj "list" acc.toList.toArray 0)) hp.objs.size acc.toList, toks := tk }) (PySem.W.each_map (R := fun v d => ∃ as, Reads (PySem.W.sortingHeap (hp.push (seqObj "list" acc.toList.toArray 0)) hp.objs.size acc.toList) v d as) (fun b : V × α => enc b.2) er) (hal bs gd) (hk bs gd) (fun d hd => ?_)) hal1 ⟨_, rfl, ?_⟩) (args_list_sort _)))
  · obtain ⟨b, hb, rfl⟩ := List.mem_map.mp hd
    have := hdp bs gd b hb
    show X.A.units + 1 + 1 + (enc b.2).depth < cLine
    omega
  · have ho := PySem.W.sortVals_data false eb er (hal bs gd)
    have hv := vals_each ho
    obtain ⟨e', he'⟩ := sortedHeap_at (vs := acc.toList) (out := (PySem.W.sortVals (PySem.W.dataKind (PySem.W.sortingHeap (hp.push (seqObj "list" acc.toList.toArray 0)) hp.objs.size acc.toList) (bs.map fun b => enc b.2)) false acc.toList acc.toList).toArray) hoL
    refine wpAny_pure ⟨_, rfl, .ref hp.objs.size, upd H hp.objs.size (.lst ((bs.mergeSort fun p q => leD (enc p.2) (enc q.2)).map (·.1))), I1.laid (t' := tk) (fun b u e => ?_) (Nat.le_refl _) (show ObjOk X.prog X.w _ _ _ (.lst _) from ⟨?_, _, e', hv, he'⟩), rfl, q bs gd _ (I1.hok.fresh (Nat.le_refl _))⟩
    · have hb : b < hp.objs.size := Heap.lt_size e
      rw [sortedHeap_old (Nat.ne_of_lt hb) (by rw [size_push']; exact Nat.lt_succ_of_lt hb)]
      exact Heap.get?_push_of_some _ e
    · rw [List.length_map, List.length_mergeSort, ← eb.length]
      exact hal1
end
/-! ### sorted(d), by its keys -/
def keyD : Key → PyData
  | .inl i => .int i
  | .inr z => .str z
theorem dp_key {K : PySem.W.Frag} {H : Hp} (k : Key) : Dp K H (kV k) (keyD k) := by cases k with | inl i => exact .int i | inr z => exact .str z
theorem keyD_dep (k : Key) : (keyD k).depth ≤ 50 := by cases k <;> simp [keyD, PyData.depth]
section
variable {X : Cx}
def rSortDK : List V → Hp → VK → Prop := fun vs H Q => ∃ (d : Addr) (kvs : List (Key × V)), vs = [.ref d] ∧ Rd H d (.dK kvs) ∧ PySem.W.AllAlike (kvs.map fun p => keyD p.1) ∧ NewK (.lst (((kvs.map (·.1)).mergeSort fun k l => leD (keyD k) (keyD l)).map kV)) Q H
theorem sortable_keys {l : List Key} : PySem.W.Sortable (l.map keyD) := .inr fun d hd => by
  obtain ⟨k, _, rfl⟩ := List.mem_map.mp hd
  cases k with
  | inl i => exact ⟨(fun z => by cases z), (fun _ z => by cases z)⟩
  | inr i => exact ⟨(fun z => by cases z), (fun _ z => by cases z)⟩
theorem cr_sortDK (hc : X.calm = true) (hu : X.A.units + 64 < cLine) : CallR X (.builtin "sorted") rSortDK := by
  intro pins s σ H vs us Q I r h
  obtain ⟨d, kvs, rfl, hd, hal, q⟩ := h
  obtain ⟨u, rfl, ru⟩ := vals1 r
  obtain rfl : u = Value.ref d := ru
  obtain ⟨z, lo, ws, rel, dd⟩ := dk_rd I.hok hd
  obtain ⟨ep, hat⟩ := dd.dictAt
  have hl : kvs.length = ws.length := Paired.length rel
  refine sorted_src (enc := keyD) (Good := fun bs => bs = kvs.map fun p => (kV p.1, p.1)) (PySem.W.kdl_dict (knd := mixKind X.prog X.w) (kvs := ws) (ep := ep) lo) hc hu I hat (by rw [← hl]; exact z) (fun acc h1 h2 => ⟨_, ?_, rfl⟩) (fun bs e => ?_) (fun bs e => ?_) (fun bs e b _ => keyD_dep _) (fun bs e => ?_)
  · have key : ∀ {l : List (Key × V)} {m : List Value}, l.length = m.length → (∀ (j : Nat) (p : Key × V) (v : Value), l[j]? = some p → m[j]? = some v → RelV (kV p.1) v) → PySem.W.EachIs (fun (v : Value) (b : V × Key) => RelV b.1 v ∧ Dp X.K H b.1 (keyD b.2)) m (l.map fun p => (kV p.1, p.1)) := by
      intro l
      induction l with
      | nil => intro m e _; cases m with | nil => exact .nil | cons _ _ => cases e
      | cons p l ih =>
        intro m e f
        cases m with
        | nil => cases e
        | cons v m => exact .cons ⟨f 0 p v rfl rfl, dp_key _⟩ (ih (by simpa using e) fun j a b ha hb => f (j + 1) a b (by simpa using ha) (by simpa using hb))
    refine key (l := kvs) (m := acc.toList) (by have e9 : acc.toList.length = acc.size := Array.length_toList; omega) fun j p v hp hv => ?_
    obtain ⟨k, y, hky, hi⟩ := h2 j v (by rw [← Array.getElem?_toList]; exact hv)
    have e1 : (kvs.map (·.1))[j]? = some k := by
      rw [KV.keys rel, List.getElem?_map, hky] <;> rfl
    rw [List.getElem?_map, hp] at e1
    cases e1
    exact keyIs_rel hi
  · subst e
    rw [List.map_map]
    exact hal
  · subst e
    rw [List.map_map]
    have := sortable_keys (l := kvs.map (·.1))
    rwa [List.map_map] at this
  · subst e
    have e2 : ((kvs.map fun p => (kV p.1, p.1)).mergeSort fun p q => leD (keyD p.2) (keyD q.2)).map (·.1) = ((kvs.map (·.1)).mergeSort fun k l => leD (keyD k) (keyD l)).map kV := by
      have e3 : (kvs.map fun p => (kV p.1, p.1)) = (kvs.map (·.1)).map fun k => (kV k, k) := by rw [List.map_map]; rfl
      rw [e3, ← List.map_mergeSort (r := fun k l => leD (keyD k) (keyD l)) (f := fun k => (kV k, k)) (fun _ _ _ _ => rfl), List.map_map]
      rfl
    rw [e2]
    exact q
/-- sorted(d), its keys pairs of ints -/
def rSortDT : List V → Hp → VK → Prop := fun vs H Q => ∃ (d : Addr) (kvs : List (List Key × V)) (ps : List (Int × Int)), vs = [.ref d] ∧ Rd H d (.dT kvs) ∧ kvs.map (·.1) = ps.map (fun p => [.inl p.1, .inl p.2]) ∧
  ∀ bs : List (V × (Int × Int)), bs.map (·.2) = ps → (∀ b ∈ bs, ∃ t, b.1 = .ref t ∧ H t = some (.tup [.int b.2.1, .int b.2.2])) → NewK (.lst ((bs.mergeSort fun p q => leD (.tuple [.int p.2.1, .int p.2.2]) (.tuple [.int q.2.1, .int q.2.2])).map (·.1))) Q H
theorem alike_pair (a b c d : Int) : PySem.W.alike (.tuple [.int a, .int b]) (.tuple [.int c, .int d]) = true := by simp [PySem.W.alike, PySem.W.alikeAll]
theorem cr_sortDT (hc : X.calm = true) (hu : X.A.units + 64 < cLine) : CallR X (.builtin "sorted") rSortDT := by
  intro pins s σ H vs us Q I r h
  obtain ⟨d, kvs, ps, rfl, hd, hps, q⟩ := h
  obtain ⟨u, rfl, ru⟩ := vals1 r
  obtain rfl : u = Value.ref d := ru
  obtain ⟨z, hs, ks, pr, o, es, ep, ho, hx, hdt, he, hn⟩ := (show ObjOk X.prog X.w H s.heap d (.dT kvs) from hd.ok I.hok)
  have l1 : es.size = ks.length := size_of_entries he
  have l2 : kvs.length = ks.length := Paired.length pr
  have l3 : kvs.length = ps.length := by have := congrArg List.length hps; rwa [List.length_map, List.length_map] at this
  refine sorted_src (enc := fun p : Int × Int => .tuple [.int p.1, .int p.2]) (Good := fun bs => bs.map (·.2) = ps ∧ ∀ b ∈ bs, ∃ t, b.1 = V.ref t ∧ H t = some (.tup [.int b.2.1, .int b.2.2])) (kdl_raw hs hx hdt) hc hu I ho (by omega) (fun acc h1 h2 => ?_) (fun bs g => ?_) (fun bs g => ?_) (fun bs g b _ => by simp [PyData.depth, PyData.depthAll]) (fun bs g => q bs g.1 g.2)
  · have key : ∀ {l : List (List Key × V)} {m : List (List Key × Addr × Value)} {ps : List (Int × Int)} {vs : List Value}, Paired (fun (p : List Key × V) (q : List Key × Addr × Value) => p.1 = q.1 ∧ H q.2.1 = some (.tup (p.1.map kV)) ∧ RelV p.2 q.2.2) l m → l.map (·.1) = ps.map (fun p => [.inl p.1, .inl p.2]) → vs = m.map (fun x => Value.ref x.2.1) →
        ∃ bs : List (V × (Int × Int)), PySem.W.EachIs (fun (v : Value) (b : V × (Int × Int)) => RelV b.1 v ∧ Dp X.K H b.1 (.tuple [.int b.2.1, .int b.2.2])) vs bs ∧ bs.map (·.2) = ps ∧ ∀ b ∈ bs, ∃ t, b.1 = V.ref t ∧ H t = some (.tup [.int b.2.1, .int b.2.2]) := by
      intro l m ps vs hp
      induction hp generalizing ps vs with
      | nil =>
        intro e1 e2
        cases ps with
        | nil => exact ⟨[], by rw [e2]; exact .nil, rfl, fun b hb => by cases hb⟩
        | cons _ _ => cases e1
      | @cons a b l m h1 _ ih =>
        intro e1 e2
        cases ps with
        | nil => cases e1
        | cons p ps =>
          rw [List.map_cons, List.map_cons] at e1
          obtain ⟨ea, er⟩ := List.cons.inj e1
          obtain ⟨bs, g1, g2, g3⟩ := ih er rfl
          have ht : H b.2.1 = some (.tup [.int p.1, .int p.2]) := by
            have := h1.2.1
            rw [ea] at this
            exact this
          refine ⟨(.ref b.2.1, p) :: bs, ?_, by rw [List.map_cons, g2], fun c hc => ?_⟩
          · rw [e2, List.map_cons]
            exact .cons ⟨rfl, .tup (sqT ht) (.cons (.int _) (.cons (.int _) .nil))⟩ g1
          · rcases List.mem_cons.mp hc with rfl | hc
            · exact ⟨_, rfl, ht⟩
            · exact g3 c hc
    refine key pr hps ?_
    apply List.ext_getElem?
    intro j
    rw [List.getElem?_map]
    cases hj : acc.toList[j]? with
    | none =>
      have h3 := List.getElem?_eq_none_iff.mp hj
      rw [Array.length_toList] at h3
      rw [List.getElem?_eq_none (by omega)]
      rfl
    | some v =>
      obtain ⟨en, hen, hv⟩ := h2 j v (by rw [← Array.getElem?_toList]; exact hj)
      have qe := entry_at he j
      rw [hen] at qe
      cases hb : ks[j]? with
      | none =>
        rw [hb] at qe
        exact nomatch (show some en = none from qe)
      | some b =>
        rw [hb] at qe
        have e2 : en = entryOfKey (tupleKind (mixKind X.prog X.w)) b := Option.some.inj qe
        rw [hv, e2]
        rfl
  · intro d hd d' hd'
    obtain ⟨x, _, rfl⟩ := List.mem_map.mp hd
    obtain ⟨y, _, rfl⟩ := List.mem_map.mp hd'
    exact alike_pair _ _ _ _
  · exact .inl fun d hd => by
      obtain ⟨x, _, rfl⟩ := List.mem_map.mp hd
      exact ⟨_, _, rfl⟩
end
end Y
/-! Own exceptions (over ValueError) as values: made, asked for their class, their fields read. -/
namespace Y
open PySem PySem.Spec PyProof.Rows L2
/-- at a: an exception of the class at C with these fields -/
def Ex (H : Hp) (a C : Addr) (fs : List (Str × V)) : Prop := (H a = some (exo a C none) ∧ fs = []) ∨ ∃ dx, H a = some (exo a C (some dx)) ∧ H dx = some (exd dx fs)
theorem Sub.ex {B H : Hp} {a C : Addr} {fs : List (Str × V)} (h : Sub B H) (r : Ex B a C fs) : Ex H a C fs := by
  rcases r with ⟨r, e⟩ | ⟨dx, r, e⟩
  · rcases h a _ r with q | ⟨m, _⟩
    · exact .inl ⟨q, e⟩
    · exact m.elim
  · rcases h a _ r with q | ⟨m, _⟩
    · rcases h dx _ e with q2 | ⟨m, _⟩
      · exact .inr ⟨dx, q, q2⟩
      · exact m.elim
    · exact m.elim
theorem Same.ex {B B' : Hp} {a C : Addr} {fs : List (Str × V)} (h : Same B B') (r : Ex B a C fs) : Ex B' a C fs := by
  rcases r with ⟨r, e⟩ | ⟨dx, r, e⟩
  · exact .inl ⟨h _ _ r, e⟩
  · exact .inr ⟨dx, h _ _ r, h _ _ e⟩
/-- the instance as the model has it -/
theorem Ex.inst {P : Program} {w : World} {H : Hp} {h : Heap} {a C : Addr} {fs : List (Str × V)} (x : Ex H a C fs) (hok : HOk P w H h) : ∃ ox od, PySem.W.InstAt h a ox C od := by
  rcases x with ⟨r, e⟩ | ⟨dx, r, e⟩
  · obtain ⟨t1, ho⟩ := exo_at hok r
    exact ⟨_, none, ho, rfl, rfl, trivial⟩
  · obtain ⟨t1, ho⟩ := exo_at hok r
    obtain ⟨mA, hns, rel⟩ := exd_at hok e
    obtain ⟨od, hd, hl⟩ := lookIn_ns hns
    exact ⟨_, some od, ho, rfl, rfl, hd⟩
/-! ### isinstance -/
def rIsX (K : PySem.W.Frag) : List V → Hp → VK → Prop := fun xs H Q => ∃ (a C : Addr) (fs : List (Str × V)) (c : V) (cv : Value) (b : Bool), xs = [.ref a, c] ∧ Ex H a C fs ∧ ExcC K C ∧ (∀ u, RelV c u → u = cv) ∧ PySem.W.kitOne K (.ref C) cv = some b ∧ Q (.bl b) H
theorem call_isX {X : Cx} {K : PySem.W.Frag} (hK : X.K = K) : CallR X (.builtin "isinstance") (rIsX K) := by
  subst hK
  intro pins s σ H xs us Q I r h
  obtain ⟨a, C, fs, c, cv, b, rfl, hx, T, hcv, e, q⟩ := h
  cases r with
  | cons rx rr =>
    cases rr with
    | cons rt rr =>
      cases rr
      cases rx
      have ec := hcv _ rt
      subst ec
      obtain ⟨ox, od, J⟩ := hx.inst I.hok
      have hcl : (PySem.W.clsIn X.K C).isSome = true := by
        obtain ⟨cd, hc, _⟩ := PySem.W.any_some T.hd
        rw [hc]; rfl
      exact PySem.W.kia_one (PySem.W.kitx_exc hcl T.hg T.hk T.hs T.ha T.hn T.ht T.hm) I.kIn J e (fun z => nomatch z) fun tk => ⟨.bl b, H, I.kept (t' := tk) fun _ _ z => z, rfl, q⟩
/-! ### fields -/
def tExF (K : PySem.W.Frag) (f : Str) (te : TE) : TE := fun σ H Q => te σ H fun x H1 => ∃ (a C : Addr) (fs : List (Str × V)) (v : V), x = .ref a ∧ Ex H1 a C fs ∧ XfC K C ∧ PySem.W.findIn K (.ref C) f = some none ∧ fs.lookup f = some v ∧ Q v H1
theorem pe_exF {X : Cx} {K : PySem.W.Frag} {e : Expr} {te : TE} {pos : Pos} {n : Str} (hK : X.K = K) (he : PE X e te) (hb : attributeBase e n X.env (eval e X.env) = eval e X.env := by rfl) : PE X (.Attribute e n pos) (tExF K n te) := by
  subst hK
  refine ⟨fun pins s σ H Q I h => ?_⟩
  refine attr_of hb (thn (he.run pins s σ H _ I h) fun u s1 hh => ?_)
  obtain ⟨x, H1, I1, rx, a, C, fs, v, ex, hx, T, hno, l, q⟩ := hh
  subst ex
  obtain rfl : u = Value.ref a := rx
  rcases hx with ⟨r, e⟩ | ⟨dx, r, e⟩
  · subst e; cases l
  obtain ⟨t1, ho⟩ := exo_at I1.hok r
  obtain ⟨mA, hns, hr⟩ := exd_at I1.hok e
  obtain ⟨od, hd, hl⟩ := lookIn_ns hns
  obtain ⟨u, hu, ru⟩ := RelO.some_of (v := v) (o := mA n) (by rw [← l]; exact hr n)
  have J : PySem.W.InstAt s1.heap a _ C (some od) := ⟨ho, rfl, rfl, hd⟩
  exact HandSPX.exc_get I1.kIn J T.ga T.gg T.exC (PySem.W.findObj_own T.hdC hno rfl (by rw [hl, hu])) (handed_of ru) ⟨v, H1, I1.tok _, ru, q⟩
/-! ### making -/
/-- C(): a class without an own __init__ -/
def tExc0 (C : Addr) : TE := fun _ H Q => ∀ a, H a = none → Q (.ref a) (upd H a (exo a C none))
theorem pe_exc0 {X : Cx} {C : Addr} {bmB : List Value} {B newId initId : String} {x : Str} {p pos : Pos} (F : ExcBaseFacts B newId initId bmB) (q : PySem.W.excIn X.K C bmB newId = true) (gC : X.mg x = some (.ref C)) (kC : PySem.W.keepIn X.K (.ref C) = true) (hg : Gl X x)
    (hdb : (x == ("__debug__" : Str)) = false := by decide) :
    PE X (.Call (.Name x p) [] [] pos) (tExc0 C) := by
  refine ⟨fun pins s σ H Q I h => ?_⟩
  refine wpAny_Call_Name_kw (ld_glob I hg gC ?_ hdb)
  refine PySem.W.callWith_K0 I.kIn kC ?_
  show wpAny _ _ (call (.ref C) []) _ _ _
  obtain ⟨bm, N, nm, qn, bs, hdct, sn, sub, ab, col, dd, k0, k1, k2, k3, k5, mN, hC, hN, hni, T⟩ := exc_obj I.kIn q
  refine wpAny_call_exc_subT F T hC hN hni (fun h' a hm => ?_) (by show 0 ≤ sizeLine; omega)
  have hn : H a = none := I.hok.gone hm.new
  obtain ⟨t, ht, _, _⟩ := hm.there
  exact ⟨.ref a, upd H a (exo a C none), I.laidN hm.keeps hm.new hn (exo_ok ht), rfl, h a hn⟩
/-- C(e, ..), C's own __init__ keeping sp -/
def tMkX (C : Addr) (sp : Sp) (ta : TA) : TE := fun σ H Q => ta σ H fun vs H1 => vs.length ≤ 1000 ∧ ∀ a, H1 a = none → sp (.ref a :: vs) (upd H1 a (exo a C none)) (fun v H2 => v = .non ∧ Q (.ref a) H2) E0
theorem pe_mkX {X : Cx} {e : Expr} {es : List Expr} {ta : TA} {p pos : Pos} {x : Str} {C fI : Addr} {k : Nat} {fd : FuncData} {ps : List Str} {sp : Sp} (T : OexC X.K C) (iC : PySem.W.findIn X.K (.ref C) "__init__" = some (some (.ref fI))) (tI : PySem.W.typeIn X.K (.ref fI) = some (.type "function"))
    (F1 : FnOk X.prog X.w X.K X.mg X.base CX0 k fI fd ps sp) (hr : Room (k + 1) X.A) (hb : Binds X.K fd ps []) (hg : Gl X x) (hm : X.mg x = some (.ref C)) (ha : PA X (e :: es) ta)
    (hdb : (x == ("__debug__" : Str)) = false := by decide) (he : starEach (e :: es) X.env = (false, eval e X.env) :: starEach es X.env := by rfl) (hpl : (backTo pos (starEach es X.env)).any (·.1) = false := by rfl) :
    PE X (.Call (.Name x p) (e :: es) [] pos) (tMkX C sp ta) := by
  refine ⟨fun pins s σ H Q I h => ?_⟩
  obtain ⟨nm, q, N, bs, bm, sn, sub, ab, col, dd, k0, k1, k2, k3, k5, hC, hbm⟩ := T.cls
  refine wpAny_Call_Name_kw (ld_glob I hg hm ?_ hdb)
  refine PySem.W.callWith_K (h₀ := X.base) I.ok.mod.kin T.kC (thn (ha.run pos pins s σ H _ I h) fun us s1 ⟨vs, H1, I1, r1, hz, q1⟩ => ⟨I1.kIn, ?_⟩) he hpl
  show wpAny _ _ (call (.ref C) us) _ _ _
  obtain ⟨hp, g, dr, tk, os⟩ := s1
  have hsz : hp.objs.size ≤ hp.objs.size + 1 := Nat.le_succ _
  have hn : H1 (hp.objs.size + 1) = none := I1.hok.fresh hsz
  have hq := q1 (hp.objs.size + 1) hn
  have kk : ∀ b o, hp.get? b = some o → ((hp.push (PySem.W.kdv_tup us)).push (PySem.HandSPX.excO C hp.objs.size)).get? b = some o := fun b o e => Heap.get?_push_of_some _ (Heap.get?_push_of_some _ e)
  have hget : ((hp.push (PySem.W.kdv_tup us)).push (PySem.HandSPX.excO C hp.objs.size)).get? (hp.objs.size + 1) = some (PySem.HandSPX.excO C hp.objs.size) := by heap_get
  have I2 : Inv X pins σ (upd H1 (hp.objs.size + 1) (exo (hp.objs.size + 1) C none)) ⟨(hp.push (PySem.W.kdv_tup us)).push (PySem.HandSPX.excO C hp.objs.size), g, dr, tk, os⟩ :=
    I1.laid (t' := tk) (a := hp.objs.size + 1) (o := exo (hp.objs.size + 1) C none) (h' := (hp.push (PySem.W.kdv_tup us)).push (PySem.HandSPX.excO C hp.objs.size)) kk hsz (exo_ok hget)
  have r2 : Vals (V.ref (hp.objs.size + 1) :: vs) (Value.ref (hp.objs.size + 1) :: us) := .cons rfl r1
  have hl : (Value.ref (hp.objs.size + 1) :: us ++ []).length = ps.length := by
    have e := r2.length
    rw [F1.len _ _ _ _ hq] at e
    simpa using e.symm
  have hus : us.length ≤ sizeLine := by
    rw [← Paired.length r1, sizeLine_eq]
    omega
  have hbd := hb ⟨(hp.push (PySem.W.kdv_tup us)).push (PySem.HandSPX.excO C hp.objs.size), g, dr, tk, os⟩ (Value.ref (hp.objs.size + 1) :: us) I2.kIn hl
  rw [List.append_nil] at hbd
  refine wpAny_call (PySem.HandSPX.call_own F.excBase_ValueError (fun Y => PySem.HandSPX.refsVE_contains Y bm hbm) (I1.kIn _ _ hC) (PySem.W.looks_findIn I1.kIn iC) (fun self => PySem.W.bind_fn I1.kIn self tI) hus
    (codeAny_mono (F1.run _ X.stack _ _ ⟨Value.ref (hp.objs.size + 1) :: us, []⟩ (Value.ref (hp.objs.size + 1) :: us) _ _ E0 (hr.make C us []) (I2.env0.make C us []) hbd r2 hq) fun r s' hq' => ?_))
  cases r with
  | error er => exact pass0 pins σ _ _ er s' I2 hq'
  | ok fl =>
    cases fl with
    | ret u =>
      obtain ⟨z, H', I', rz, rfl, q⟩ := I2.after hq'
      exact ⟨rz, .ref _, H', I', rfl, q⟩
    | next => exact False.elim hq'
    | brk => exact False.elim hq'
    | cont => exact False.elim hq'
/-! ### what is told of a class -/
structure XCls (K : PySem.W.Frag) (C : Addr) : Prop where
  o : OexC K C
  f : XfC K C
  i : ExcC K C
def oexB (K : PySem.W.Frag) (C : Addr) : Bool := match K.lookup C with
  | some ⟨.type "type", _, .cls cd, sl⟩ => (match cd.mro, sl.toList with
    | .ref C' :: bm, [_, _, _, _, some (.builtin n), _] => C' == C && n == "ValueError.__new__" && !cd.hasDel && cd.hasDict && PySem.HandSPX.refsVE bm
    | _, _ => false)
  | _ => false
theorem oexB_ok {K : PySem.W.Frag} {C : Addr} (q : oexB K C = true) : ∃ nm q N bs bm sn sub ab col dd k0 k1 k2 k3 k5, K.lookup C = some (excClassObj nm q C N bs bm true sn sub ab col dd k0 k1 k2 k3 k5 "ValueError.__new__") ∧ PySem.HandSPX.refsVE bm = true := by
  unfold oexB at q
  split at q
  · rename_i dd cd sl ho
    split at q
    · rename_i C' bm k0 k1 k2 k3 n k5 hm hs
      simp only [Bool.and_eq_true, beq_iff_eq, Bool.not_eq_true'] at q
      obtain ⟨⟨⟨⟨rfl, rfl⟩, hdel⟩, hdc⟩, ht⟩ := q
      obtain ⟨nm, bs, mro, ns, qn, hd, sn, sub, ab, col, del⟩ := cd
      dsimp only at hm hdel hdc
      subst hm hdel hdc
      have hsl : sl = #[k0, k1, k2, k3, some (.builtin "ValueError.__new__"), k5] := by
        obtain ⟨l⟩ := sl
        simp only at hs
        rw [hs]
      subst hsl
      exact ⟨nm, qn, ns, bs, bm, sn, sub, ab, col, dd, k0, k1, k2, k3, k5, ho, ht⟩
    · cases q
  · cases q
def xclsB (K : PySem.W.Frag) (C : Addr) : Bool := oexB K C && (decide (PySem.W.findIn K (.ref C) "__setattr__" = some (some (.builtin "object.__setattr__"))) && (decide (PySem.W.subIn K (.ref C) (.type "BaseException") = some true) && (decide (PySem.W.typeIn K (.ref C) = some (.type "type")) &&
  (PySem.W.keepIn K (.ref C) && (xfB K C && (decide (PySem.W.findIn K (.ref C) "__class__" = some (some (.builtin "object.__class__"))) && (decide (PySem.W.specialIn K (.builtin "object.__class__") "__get__" = some (some (.builtin "getset_descriptor.__get__"))) &&
  (decide (PySem.W.takesIn K (.builtin "object.__class__") = some true) && decide (PySem.W.mroIn K C (.type "object") = some true)))))))))
theorem xclsB_ok {K : PySem.W.Frag} {C : Addr} (h : xclsB K C = true) : XCls K C := by
  obtain ⟨h1, h⟩ := Bool.and_eq_true_iff.mp h
  obtain ⟨h2, h⟩ := Bool.and_eq_true_iff.mp h
  obtain ⟨h3, h⟩ := Bool.and_eq_true_iff.mp h
  obtain ⟨h4, h⟩ := Bool.and_eq_true_iff.mp h
  obtain ⟨h5, h⟩ := Bool.and_eq_true_iff.mp h
  obtain ⟨h6, h⟩ := Bool.and_eq_true_iff.mp h
  obtain ⟨h7, h⟩ := Bool.and_eq_true_iff.mp h
  obtain ⟨h8, h⟩ := Bool.and_eq_true_iff.mp h
  obtain ⟨h9, h10⟩ := Bool.and_eq_true_iff.mp h
  have f := xfB_ok h6
  exact ⟨⟨oexB_ok h1, of_decide_eq_true h2, of_decide_eq_true h3, of_decide_eq_true h4, h5⟩, f, ⟨f.ga, f.gg, f.exC, f.hdC, of_decide_eq_true h7, of_decide_eq_true h8, of_decide_eq_true h9, of_decide_eq_true h10⟩⟩
def xtyB (K : PySem.W.Frag) (f : Addr) : Bool := decide (PySem.W.typeIn K (.ref f) = some (.type "function"))
theorem xtyB_ok {K : PySem.W.Frag} {f : Addr} (h : xtyB K f = true) : PySem.W.typeIn K (.ref f) = some (.type "function") := of_decide_eq_true h
/-- isinstance of each by each -/
def xisB (K : PySem.W.Frag) (xs : List Str) (H : Str) : Bool := xs.all fun x => (decide (PySem.W.kitOne K (.ref (He.ga K x)) (.ref (He.ga K H)) = some true) && decide (PySem.W.kitOne K (.ref (He.ga K x)) (.type "ValueError") = some true)) && xs.all fun y => decide (PySem.W.kitOne K (.ref (He.ga K x)) (.ref (He.ga K y)) = some (decide (x = y)))
structure XIs (K : PySem.W.Frag) (xs : List Str) (H : Str) : Prop where
  own : ∀ x ∈ xs, ∀ y ∈ xs, PySem.W.kitOne K (.ref (He.ga K x)) (.ref (He.ga K y)) = some (decide (x = y))
  up : ∀ x ∈ xs, PySem.W.kitOne K (.ref (He.ga K x)) (.ref (He.ga K H)) = some true
  ve : ∀ x ∈ xs, PySem.W.kitOne K (.ref (He.ga K x)) (.type "ValueError") = some true
theorem xisB_ok {K : PySem.W.Frag} {xs : List Str} {H : Str} (h : xisB K xs H = true) : XIs K xs H := by
  have h1 := fun x hx => Bool.and_eq_true_iff.mp (List.all_eq_true.mp h x hx)
  exact ⟨fun x hx y hy => of_decide_eq_true (List.all_eq_true.mp (h1 x hx).2 y hy), fun x hx => of_decide_eq_true (Bool.and_eq_true_iff.mp (h1 x hx).1).1, fun x hx => of_decide_eq_true (Bool.and_eq_true_iff.mp (h1 x hx).1).2⟩
/-! ### making, by a promise -/
def OkX (P : Program) (w : World) (K : PySem.W.Frag) (mg : Str → Option Value) (base : Heap) (C : Addr) (k : Nat) (x : Str) (ps : List Str) (sp : Sp) : Prop :=
  ∃ f fd, OexC K C ∧ PySem.W.findIn K (.ref C) "__init__" = some (some (.ref f)) ∧ PySem.W.typeIn K (.ref f) = some (.type "function") ∧ mg x = some (.ref C) ∧ Binds K fd ps [] ∧ FnOk P w K mg base CX0 k f fd ps sp
theorem OkM.mkX {P : Program} {w : World} {K : PySem.W.Frag} {mg : Str → Option Value} {base : Heap} {C f : Addr} {k : Nat} {x : Str} {ps : List Str} {sp : Sp} (O : OkM P w K mg base C k "__init__" ps [] sp) (T : OexC K C) (M : Meth K C "__init__" f) (ty : PySem.W.typeIn K (.ref f) = some (.type "function")) (g : mg x = some (.ref C)) : OkX P w K mg base C k x ps sp := by
  obtain ⟨f', fd, ds, h1, h2, h3, h4⟩ := O
  cases h2
  have e : f' = f := by
    have := h1.at_.symm.trans M.at_
    cases this
    rfl
  subst e
  exact ⟨f', fd, T, M.at_, ty, g, h3, h4⟩
theorem pe_xO {X : Cx} {e : Expr} {es : List Expr} {ta : TA} {p pos : Pos} {x : Str} {C : Addr} {k : Nat} {ps : List Str} {sp : Sp} (O : OkX X.prog X.w X.K X.mg X.base C k x ps sp) (hr : Room (k + 1) X.A) (hg : Gl X x) (ha : PA X (e :: es) ta)
    (hdb : (x == ("__debug__" : Str)) = false := by decide) (he : starEach (e :: es) X.env = (false, eval e X.env) :: starEach es X.env := by rfl) (hpl : (backTo pos (starEach es X.env)).any (·.1) = false := by rfl) :
    PE X (.Call (.Name x p) (e :: es) [] pos) (tMkX C sp ta) := by
  obtain ⟨f, fd, T, h1, h2, h3, h4, h5⟩ := O
  exact pe_mkX T h1 h2 h5 hr h4 hg h3 ha hdb he hpl
/-- what an own __init__ does: n fields -/
def spX (C : Addr) (n : Nat) (gf : List V → List (Str × V)) : Sp := fun vs H Q _ => ∃ a ws, vs = .ref a :: ws ∧ ws.length = n ∧ H a = some (exo a C none) ∧ ∀ dx, H dx = none → dx ≠ a → Q .non (upd (upd H dx (exd dx (gf ws))) a (exo a C (some dx)))
section
variable {K : PySem.W.Frag} {σ : L2.St} {e : En} {B B' H : Hp} {L : Led} {Q : VK} {to te : TE} {ta : TA} {v x y : V} {vs : List V} {a dx C : Addr} {f : Str} {fs : List (Str × V)} {nx bk ct : L2.St → Hp → Prop} {rt : VK} {n : Nat} {gf : List V → List (Str × V)}
def OstK (K : PySem.W.Frag) (f : Str) (y : V) (N : Hp → Prop) : VK := fun x H2 => ∃ a C : Addr, x = .ref a ∧ OexC K C ∧ PySem.W.findIn K (.ref C) f = some none ∧
  ((H2 a = some (exo a C none) ∧ ∀ dx, H2 dx = none → dx ≠ a → N (upd (upd H2 dx (exd dx [(f, y)])) a (exo a C (some dx)))) ∨
    ∃ (dx : Addr) (fs : List (Str × V)), H2 a = some (exo a C (some dx)) ∧ H2 dx = some (exd dx fs) ∧ fs.length ≤ 900 ∧ N (upd H2 dx (exd dx ((f, y) :: fs))))
theorem y_ost (h : te σ H fun y H1 => to σ H1 (OstK K f y (nx σ))) : tOst K f to te ⟨nx, rt, bk, ct⟩ σ H := h
theorem upd2 {H : Hp} {a dx : Addr} {o u o' : HO} (h : dx ≠ a) : upd (upd (upd H dx o) a u) dx o' = upd (upd H dx o') a u := by
  funext b
  by_cases h1 : b = dx
  · subst h1; rw [upd_same, upd_ne h, upd_same]
  · rw [upd_ne h1]
    by_cases h2 : b = a
    · subst h2; rw [upd_same, upd_same]
    · rw [upd_ne h2, upd_ne h2, upd_ne h1, upd_ne h1]
def MkXK (C : Addr) (sp : Sp) (Q : VK) : List V → Hp → Prop := fun vs H1 => vs.length ≤ 1000 ∧ ∀ a, H1 a = none → sp (.ref a :: vs) (upd H1 a (exo a C none)) (fun v H2 => v = .non ∧ Q (.ref a) H2) E0
theorem y_mkX (h : ta σ H (MkXK C (spX C n gf) Q)) : tMkX C (spX C n gf) ta σ H Q := h
theorem y_mkXK (S : Sy e B H L) (hl : vs.length = n) (hn : n ≤ 1000) (k : ∀ a B' H', Same B B' → Ex B' a C (gf vs) → Sy e B' H' L → Q (.ref a) H') : MkXK C (spX C n gf) Q vs H := by
  refine ⟨by omega, fun a ha => ⟨a, vs, rfl, hl, upd_same, fun dx hd hne => ⟨rfl, ?_⟩⟩⟩
  rw [upd_ne hne] at hd
  obtain ⟨b1, S1⟩ := S.newI (o := exd dx (gf vs)) hd
  obtain ⟨b2, S2⟩ := S1.newI (p := a) (o := exo a C (some dx)) (by rw [upd_ne (fun z => hne z.symm)]; exact ha)
  have e1 : upd (upd (upd H a (exo a C none)) dx (exd dx (gf vs))) a (exo a C (some dx)) = upd (upd H dx (exd dx (gf vs))) a (exo a C (some dx)) := by
    funext b
    by_cases h2 : b = a
    · subst h2; rw [upd_same, upd_same]
    · rw [upd_ne h2, upd_ne h2]
      by_cases h1 : b = dx
      · subst h1; rw [upd_same, upd_same]
      · rw [upd_ne h1, upd_ne h1, upd_ne h2]
  rw [e1]
  exact k a _ _ (b1.trans b2) (.inr ⟨dx, upd_same, by rw [upd_ne hne, upd_same]⟩) S2
theorem y_exc0 (S : Sy e B H L) (k : ∀ a B' H', Same B B' → Ex B' a C [] → Sy e B' H' L → Q (.ref a) H') : tExc0 C σ H Q := fun a ha => by
  obtain ⟨b1, S1⟩ := S.newI (o := exo a C none) ha
  exact k a _ _ b1 (.inl ⟨upd_same, rfl⟩) S1
def ExFK (K : PySem.W.Frag) (f : Str) (Q : VK) : VK := fun x H1 => ∃ (a C : Addr) (fs : List (Str × V)) (v : V), x = .ref a ∧ Ex H1 a C fs ∧ XfC K C ∧ PySem.W.findIn K (.ref C) f = some none ∧ fs.lookup f = some v ∧ Q v H1
theorem y_exF (h : te σ H (ExFK K f Q)) : tExF K f te σ H Q := h
theorem y_exFK (S : Sy e B H L) (hx : Ex B a C fs) (T : XCls K C) (hn : NoAttr K C f) (hl : fs.lookup f = some v) (q : Q v H) : ExFK K f Q (.ref a) H := ⟨a, C, fs, v, rfl, S.bh.ex hx, T.f, hn, hl, q⟩
end
end Y
/-! Wider rules: products of wide numbers, isinstance of exceptions too, sorted of many things. -/
namespace Y
open PySem PySem.Spec PyProof.Rows L2
def rMulZ : R2 := fun x y H Q => ∃ i j, x = .int i ∧ y = .int j ∧ (CMul i j ∨ CMulW i j) ∧ Q (.int (i * j)) H
def rIsiZ (K : PySem.W.Frag) : List V → Hp → VK → Prop := fun xs H Q => rIsi K xs H Q ∨ rIsX K xs H Q
def rSortZ (K : PySem.W.Frag) : List V → Hp → VK → Prop := fun xs H Q => rSortU K xs H Q ∨ rSortC K xs H Q ∨ rSortDK xs H Q ∨ rSortDT xs H Q
section
variable {X : Cx} {K : PySem.W.Frag}
theorem op_mulZ : OpR X (binaryOp .Mult) rMulZ := by
  intro pins s σ H x y v u Q I rx ry h
  obtain ⟨i, j, e1, e2, h | h, q⟩ := h
  · exact op_mul pins s σ H x y v u Q I rx ry ⟨i, j, e1, e2, h, q⟩
  · exact op_mulW pins s σ H x y v u Q I rx ry ⟨i, j, e1, e2, h, q⟩
theorem call_isiZ (hK : X.K = K) : CallR X (.builtin "isinstance") (rIsiZ K) := CallR.or (call_isiU hK) (call_isX hK)
theorem call_sortedZ (hK : X.K = K) (hc : X.calm = true) (hu : X.A.units + 64 < cLine) : CallR X (.builtin "sorted") (rSortZ K) := CallR.or (call_sortedU hK) (CallR.or (cr_sortC hK hu) (CallR.or (cr_sortDK hc hu) (cr_sortDT hc hu)))
end
section
variable {K : PySem.W.Frag} {e : En} {B H : Hp} {L : Led} {Q : VK} {x : V} {a C : Addr} {fs : List (Str × V)}
theorem y_mulZ {i j : Int} (h : CMul i j) (q : Q (.int (i * j)) H) : rMulZ (.int i) (.int j) H Q := ⟨i, j, rfl, rfl, .inl h, q⟩
theorem y_mulW {i j : Int} {a b : Nat} (ha : i.natAbs < 2 ^ a) (hb : j.natAbs < 2 ^ b) (h0 : 0 < a) (h1 : 0 < b) (h : a + b ≤ 1000000) (q : Q (.int (i * j)) H) : rMulZ (.int i) (.int j) H Q := ⟨i, j, rfl, rfl, .inr (wide_mul ha hb h0 h1 h), q⟩
theorem y_isiZ {s t : String} {r : Bool} (S : Sy e B H L) (h : Kd K B x s) (hr : kitB s t = some r) (q : Q (.bl r) H) : rIsiZ K [x, .ty t] H Q := .inl (y_isi (h.up S.bh) hr q)
/-- isinstance(an exception, an own class) -/
theorem y_isX {D : Addr} {b : Bool} (S : Sy e B H L) (hx : Ex B a C fs) (T : XCls K C) (h : PySem.W.kitOne K (.ref C) (.ref D) = some b) (q : Q (.bl b) H) : rIsiZ K [.ref a, .ref D] H Q :=
  .inr ⟨a, C, fs, .ref D, .ref D, b, rfl, S.bh.ex hx, T.i, fun u ru => ru, h, q⟩
theorem y_isXt {t : String} {b : Bool} (S : Sy e B H L) (hx : Ex B a C fs) (T : XCls K C) (h : PySem.W.kitOne K (.ref C) (.type t) = some b) (q : Q (.bl b) H) : rIsiZ K [.ref a, .ty t] H Q :=
  .inr ⟨a, C, fs, .ty t, .type t, b, rfl, S.bh.ex hx, T.i, fun u ru => ru, h, q⟩
end
end Y
/-! Sets of ints and texts: made of a list, counted, sorted. -/
namespace Y
open PySem PySem.Spec PyProof.Rows L2
theorem paired_perm {α β : Type} {F : α → β → Prop} : ∀ {l l' : List α}, l'.Perm l → ∀ {m : List β}, Paired F l m → ∃ m', m'.Perm m ∧ Paired F l' m' := by
  intro l l' p
  induction p with
  | nil => exact fun h => ⟨_, .refl _, h⟩
  | cons x _ ih =>
    intro m h
    cases h with
    | cons r t =>
      obtain ⟨m', p', h'⟩ := ih t
      exact ⟨_ :: m', p'.cons _, .cons r h'⟩
  | swap x y l =>
    intro m h
    cases h with
    | cons r t =>
      cases t with
      | cons r2 t2 => exact ⟨_, .swap _ _ _, .cons r2 (.cons r t2)⟩
  | trans _ _ ih1 ih2 =>
    intro m h
    obtain ⟨m1, p1, h1⟩ := ih2 h
    obtain ⟨m2, p2, h2⟩ := ih1 h1
    exact ⟨m2, p2.trans p1, h2⟩
def GoodK (P : Program) (w : World) (e : Int × Value) (k : Key) : Prop := (mixKind P w).is k e.2 = true ∧ e.1 = (mixKind P w).hash k ∧ e.2.scannable = true
/-- the set at a: its members are those of ks -/
def SetM (P : Program) (w : World) (h : Heap) (a : Addr) (ks : List Key) : Prop :=
  ∃ o es ep t kl, h.get? a = some o ∧ o.ExactSet ∧ o.data = .set es ep t ∧ Paired (GoodK P w) es.toList kl ∧ kl.Nodup ∧ kl.Perm ks ∧ es.size < scanBound ∧ t.fits es.size = true ∧ Ris t.place.toList ∧ (w.params.followText "set-order" = true ∨ t.led = true)
def setO (P : Program) (w : World) (a : Addr) (ks : List Key) : HO := .ext fun h => SetM P w h a ks
section
variable {P : Program} {w : World} {h h' : Heap} {a : Addr} {ks : List Key}
theorem SetM.at (R : SetM P w h a ks) (k : ∀ o, h.get? a = some o → h'.get? a = some o) : SetM P w h' a ks := by
  obtain ⟨o, es, ep, t, kl, ho, r⟩ := R
  exact ⟨o, es, ep, t, kl, k o ho, r⟩
theorem setO_new {H : Hp} (R : SetM P w h a ks) : ObjOk P w H h a (setO P w a ks) := by
  have ⟨o, _, _, _, _, ho, _⟩ := R
  exact ⟨R, ⟨o, ho⟩, fun h1 h2 p k => SetM.at p k⟩
theorem good_elemsM : ∀ {l : List (Int × Value)} {kl : List Key}, Paired (GoodK P w) l kl → ElemsOf (mixKind P w) l
  | _, _, .nil => fun e he => by cases he
  | _, _, .cons r t => fun e he => by
    rcases List.mem_cons.mp he with rfl | he
    · exact ⟨⟨_, r.1, r.2.1⟩, r.2.2⟩
    · exact good_elemsM t e he
theorem good_memM {k : Key} : ∀ {l : List (Int × Value)} {kl : List Key}, Paired (GoodK P w) l kl → (k ∈ kl ↔ ∃ e ∈ l, (mixKind P w).is k e.2 = true)
  | _, _, .nil => ⟨fun z => (by cases z), fun ⟨_, z, _⟩ => (by cases z)⟩
  | _, _, .cons r t => by
    rw [List.mem_cons, good_memM t]
    constructor
    · rintro (z | ⟨e, he, q⟩)
      · subst z; exact ⟨_, List.mem_cons_self, r.1⟩
      · exact ⟨e, List.mem_cons_of_mem _ he, q⟩
    · rintro ⟨e, he, q⟩
      rcases List.mem_cons.mp he with z | he
      · rw [z] at q
        exact .inl ((mixKind P w).inj _ _ _ q r.1)
      · exact .inr ⟨e, he, q⟩
end
section
variable {P : Program} {w : World} {A : Around} {E : Value → Shared → Prop} {s : Shared} {a : Addr} {ks : List Key}
theorem setM_add_tail {g : Bool → Sem Unit} (hg : ∀ (b : Bool) (s₁ : Shared) (Q' : Unit → Shared → Prop), Q' () s₁ → wpAny (model P w) A (g b) Q' E s₁)
    {o : Obj} {es : Array (Int × Value)} {ep : Nat} {t : SetTable} (ho : s.heap.get? a = some o) (hex : o.ExactSet) (hd : o.data = .set es ep t)
    {es1 : Array (Int × Value)} {t2 : SetTable} {kl ks' : List Key} (g1 : Paired (GoodK P w) es1.toList kl) (nd1 : kl.Nodup) (m1 : kl.Perm ks')
    (hb1 : es1.size < scanBound) (hf2 : t2.fits es1.size = true) (hr : Ris t2.place.toList) (hl : w.params.followText "set-order" = true ∨ t2.led = true) {wasDummy : Bool} {R : Option Bool → Shared → Prop}
    (hR : ∀ h', Heap.SameBut a s.heap h' → SetM P w h' a ks' → R (some true) { s with heap := h' }) :
    wpAny (model P w) A (do
        storeSet a es1 t2
        if (!wasDummy && t2.tooFull) = true then do
            g (relayAll t2 es1 (SetTable.grown es1.size)).2.2
            storeSet a (relayAll t2 es1 (SetTable.grown es1.size)).1 (relayAll t2 es1 (SetTable.grown es1.size)).2.1
            pure (some true)
          else pure (some true)) R E s := by
  refine wpAny_bind (wpAny_storeSet_of ho hd ?_ (fits_of_scanBound hb1))
  have ho1 := store_at (es' := es1) (t' := t2) ho hd
  have sb1 := Heap.SameBut.update s.heap a (Obj.putSet es1 t2)
  split
  · have pm := relayAll_perm t2 es1 (SetTable.grown es1.size)
    have hf3 := relayAll_fits t2 es1 (SetTable.grown es1.size)
    have hr3 := relayAll_ris t2 es1 (SetTable.grown es1.size)
    have hl3 := relayAll_led t2 es1 (SetTable.grown es1.size)
    generalize relayAll t2 es1 (SetTable.grown es1.size) = Z at pm hf3 hr3 hl3 ⊢
    obtain ⟨es2, t3, gave⟩ := Z
    dsimp only at pm hf3 hr3 hl3 ⊢
    have hsz : es2.size = es1.size := by rw [← Array.length_toList, pm.length_eq, Array.length_toList]
    have hb2 : es2.size < scanBound := by rw [hsz]; exact hb1
    refine wpAny_bind (hg _ _ _ ?_)
    refine wpAny_bind (wpAny_storeSet_of ho1 rfl ?_ (fits_of_scanBound hb2))
    have ho2 := store_at (es' := es2) (t' := t3) ho1 rfl
    obtain ⟨kl2, pk, g2⟩ := paired_perm pm g1
    refine wpAny_pure (hR _ (sb1.trans (Heap.SameBut.update _ a _)) ?_)
    exact ⟨_, es2, _, t3, kl2, ho2, hex, rfl, g2, pk.nodup_iff.mpr nd1, pk.trans m1, hb2, hf3, hr3, hl.imp id fun z => by rw [hl3]; exact z⟩
  · exact wpAny_pure (hR _ sb1 ⟨_, es1, _, t2, kl, ho1, hex, rfl, g1, nd1, m1, hb1, hf2, hr, hl⟩)
theorem SetM.len (R : SetM P w s.heap a ks) : ks.length < scanBound := by
  obtain ⟨o, es, ep, t, kl, ho, hex, hd, g, nd, hm, hb, r⟩ := R
  have := hm.length_eq
  have h2 : es.toList.length = kl.length := g.length
  rw [Array.length_toList] at h2
  omega
open Classical in
/-- k added -/
noncomputable def addK (ks : List Key) (k : Key) : List Key := if k ∈ ks then ks else ks ++ [k]
theorem setM_add_hashed {k : Key} {v : Value} {Q : Bool → Shared → Prop} (hkey : (mixKind P w).is k v = true) (hsc : v.scannable = true) (R : SetM P w s.heap a ks) (room : ks.length + 1 < scanBound)
    (hQ : ∀ b h', Heap.SameBut a s.heap h' → SetM P w h' a (addK ks k) → Q b { s with heap := h' }) :
    wpAny (model P w) A (setAddHashed a v ((mixKind P w).hash k)) Q E s := by
  obtain ⟨o, es, ep, t, kl, ho, hex, hd, g, nd, hm, hb, hf, hr, hl⟩ := R
  have hel : ElemsOf (mixKind P w) es.toList := good_elemsM g
  unfold setAddHashed setAddHashedIn
  refine wpAny_holding (wpAny_bind (wpAny_setState_of ho hd hf ?_))
  dsimp only
  rw [byScan_of hsc hb hel]
  simp only [↓reduceIte]
  unfold setAddByScan
  refine wpAny_bind ?_
  refine wpAny_bind (wpAny_rule ?_)
  refine wpAny_bind (wpAny_setScan_of hkey ho hd hf hel ?_)
  cases hfi : List.findIdx? (fun e => (mixKind P w).is k e.2) es.toList with
  | some j =>
    dsimp only
    obtain ⟨hj, pj, _⟩ := List.findIdx?_eq_some_iff_getElem.mp hfi
    have hk : k ∈ ks := hm.mem_iff.mp ((good_memM g).2 ⟨es.toList[j], List.getElem_mem hj, pj⟩)
    refine wpAny_pure (wpAny_pure ?_)
    exact hQ _ s.heap (Heap.SameBut.refl a s.heap) ⟨o, es, ep, t, kl, ho, hex, hd, g, nd, by unfold addK; rw [if_pos hk]; exact hm, hb, hf, hr, hl⟩
  | none =>
    dsimp only
    have hnk : k ∉ kl := fun z => by
      obtain ⟨e, he, q⟩ := (good_memM g).1 z
      have c := List.findIdx?_eq_none_iff.mp hfi e he
      rw [q] at c
      cases c
    have hk : k ∉ ks := fun z => hnk (hm.mem_iff.mpr z)
    have hgw : ∀ (b : Bool) {s₁ : Shared} {Q' : Unit → Shared → Prop}, Q' () s₁ → wpAny (model P w) A (match b with | true => rule "set.scan.the-table-gave-way" | false => pure ()) Q' E s₁ :=
      fun b s₁ Q' q => by cases b <;> first | exact wpAny_pure q | exact wpAny_rule q
    have pm := layNew_perm t es ((mixKind P w).hash k) v
    have hf1 := layNew_fits t es ((mixKind P w).hash k) v
    have hr1 := layNew_ris t es ((mixKind P w).hash k) v hr
    have hl1 := layNew_led t es ((mixKind P w).hash k) v
    generalize layNew t es ((mixKind P w).hash k) v = Z at pm hf1 hr1 hl1 ⊢
    obtain ⟨es1, t1, wasDummy, gave⟩ := Z
    dsimp only at pm hf1 hr1 hl1 ⊢
    rw [Array.toList_push] at pm
    have pc : es1.toList.Perm (((mixKind P w).hash k, v) :: es.toList) := pm.trans (List.perm_append_singleton _ _)
    obtain ⟨kl1, pk, g1⟩ := paired_perm pc (Paired.cons (show GoodK P w ((mixKind P w).hash k, v) k from ⟨hkey, rfl, hsc⟩) g)
    have nd1 : kl1.Nodup := pk.nodup_iff.mpr (List.nodup_cons.mpr ⟨hnk, nd⟩)
    have m1 : kl1.Perm (addK ks k) := by
      unfold addK
      rw [if_neg hk]
      exact pk.trans ((hm.cons k).trans (List.perm_append_singleton _ _).symm)
    have hsz : es1.size = ks.length + 1 := by
      have e1 : es.toList.length = kl.length := g.length
      rw [← Array.length_toList, pc.length_eq, List.length_cons, e1, hm.length_eq]
    have hb1 : es1.size < scanBound := by rw [hsz]; exact room
    have hled : w.params.followText "set-order" = true ∨ t1.led = true := hl.imp id fun z => by rw [hl1]; exact z
    have fin : ∀ h', Heap.SameBut a s.heap h' → SetM P w h' a (addK ks k) → Q true { s with heap := h' } := fun h' sb r => hQ _ h' sb r
    refine wpAny_bind (hgw _ ?_)
    split
    · refine wpAny_bind ?_
      rw [hashByValue_scannable 8 hsc]
      refine wpAny_pure ?_
      refine setM_add_tail ?_ ho hex hd g1 nd1 m1 hb1 ?_ ?_ ?_ ?_
      · intro b s₁ Q' q; cases b <;> first | exact wpAny_pure q | exact wpAny_rule q
      · first | (split <;> first | exact hf1 | exact SetTable.fits_plain_off hf1) | exact hf1
      · first | (split <;> exact hr1) | exact hr1
      · first | (split <;> exact hled) | exact hled
      · intro h' sb r; dsimp only; exact wpAny_pure (fin h' sb r)
    · refine wpAny_bind (wpAny_pure ?_)
      simp only [↓reduceIte]
      refine setM_add_tail ?_ ho hex hd g1 nd1 m1 hb1 hf1 hr1 hled ?_
      · intro b s₁ Q' q; cases b <;> first | exact wpAny_pure q | exact wpAny_rule q
      · intro h' sb r; dsimp only; exact wpAny_pure (fin h' sb r)
/-- the first times -/
noncomputable def firstK (ks : List Key) : List Key := ks.foldl addK []
theorem addK_mem {l : List Key} {k j : Key} : j ∈ addK l k ↔ j ∈ l ∨ j = k := by
  unfold addK
  split
  · exact ⟨.inl, fun z => z.elim id fun e => by rw [e]; assumption⟩
  · rw [List.mem_append, List.mem_singleton]
theorem addK_nodup {l : List Key} {k : Key} (h : l.Nodup) : (addK l k).Nodup := by
  unfold addK
  split
  · exact h
  · next c =>
    refine List.nodup_append.mpr ⟨h, by simp, fun x hx y hy hxy => ?_⟩
    rw [List.mem_singleton] at hy
    rw [hxy, hy] at hx
    exact c hx
theorem fold_mem {j : Key} : ∀ {ks l : List Key}, j ∈ ks.foldl addK l ↔ j ∈ l ∨ j ∈ ks
  | [], l => by simp
  | k :: ks, l => by
    rw [List.foldl_cons, fold_mem, addK_mem, List.mem_cons]
    exact or_assoc
theorem fold_nodup : ∀ {ks l : List Key}, l.Nodup → (ks.foldl addK l).Nodup
  | [], _, h => h
  | k :: ks, l, h => by
    rw [List.foldl_cons]
    exact fold_nodup (addK_nodup h)
theorem firstK_mem {ks : List Key} {j : Key} : j ∈ firstK ks ↔ j ∈ ks := by
  unfold firstK
  rw [fold_mem]
  simp
theorem firstK_nodup {ks : List Key} : (firstK ks).Nodup := fold_nodup (by simp)
theorem addK_len {l : List Key} {k : Key} : (addK l k).length ≤ l.length + 1 := by
  unfold addK
  split
  · omega
  · simp
theorem take_firstK {ks : List Key} {i : Nat} {k : Key} (h : ks[i]? = some k) : firstK (ks.take (i + 1)) = addK (firstK (ks.take i)) k := by
  have e : ks.take (i + 1) = ks.take i ++ [k] := by
    rw [List.take_add_one, h]
    rfl
  unfold firstK
  rw [e, List.foldl_append]
  rfl
theorem fold_len : ∀ {ks l : List Key}, (ks.foldl addK l).length ≤ l.length + ks.length
  | [], l => by simp
  | k :: ks, l => by
    rw [List.foldl_cons, List.length_cons]
    have := fold_len (ks := ks) (l := addK l k)
    have := addK_len (l := l) (k := k)
    omega
theorem firstK_len {ks : List Key} : (firstK ks).length ≤ ks.length := by
  have := fold_len (ks := ks) (l := [])
  simpa [firstK] using this
end
section
variable {prog : Program} {w : World} {A : Around} {R : Result → Shared → Prop} {I : Addr} {fp wr : List Addr} {G : Array GenState → Array GenState → Prop} {P : Nat → Value → Prop} {St : Nat → Shared → Prop}
theorem set_update_loopM {ks : List Key} (W : WalksS prog w A.in1 I fp wr G ks.length P St) (S : Addr) (hSf : S ∉ fp)
    (hval : ∀ i v, P i v → ∃ k, ks[i]? = some k ∧ (mixKind prog w).is k v = true ∧ v.scannable = true) (hb : ks.length + 1 < scanBound) :
    ∀ (k i : Nat) (s : Shared), ks.length - i = k → i ≤ ks.length → St i s → SetM prog w s.heap S (firstK (ks.take i)) →
      (∀ s', Moved (S :: wr) G s s' → SetM prog w s'.heap S (firstK ks) → R (.ok (.ret .none)) s') →
      codeAny (model prog w) A (.builtin "set.update.loop" ⟨[.ref S, .ref I], []⟩) R s := by
  have hSw : S ∉ wr := fun h => hSf (W.sub _ h)
  have hsub : ∀ b ∈ wr, b ∈ S :: wr := fun b hb => List.mem_cons_of_mem _ hb
  intro k
  induction k with
  | zero =>
    intro i s hk hi hst hS hR
    have hin : i = ks.length := by omega
    subst hin
    refine codeAny_builtin F.entry_set_update_loop ?_
    rw [Around.under_plainId F.plain_set_update_loop _]
    show wpAny _ A.in1 (pyNext (.ref I) >>= _) _ _ s
    refine wpAny_bind (W.done s _ _ hst fun s' hm => ?_)
    show wpAny _ A.in1 (ret Value.none) _ _ s'
    rw [List.take_length] at hS
    exact wpAny_pure (hR s' (hm.mono hsub) (hS.at fun o ho => hm.heap S _ hSw ho))
  | succ k ih =>
    intro i s hk hi hst hS hR
    have hlt : i < ks.length := by omega
    refine codeAny_builtin F.entry_set_update_loop ?_
    rw [Around.under_plainId F.plain_set_update_loop _]
    show wpAny _ A.in1 (pyNext (.ref I) >>= _) _ _ s
    refine wpAny_bind (W.item i s _ _ hlt hst fun v s' hP hst' hm => ?_)
    obtain ⟨kk, hk1, hk2, hk3⟩ := hval i v hP
    have hS' : SetM prog w s'.heap S (firstK (ks.take i)) := hS.at fun o ho => hm.heap S _ hSw ho
    show wpAny _ A.in1 (holding [v] (setAdd S v) >>= _) _ _ s'
    refine wpAny_bind (wpAny_holding ?_)
    unfold setAdd
    refine wpAny_holding ?_
    refine wpAny_bind ((mixKind prog w).pyHash (k := kk) hk2 ?_)
    have hroom : (firstK (ks.take i)).length + 1 < scanBound := by
      have h1 := firstK_len (ks := ks.take i)
      rw [List.length_take] at h1
      omega
    refine setM_add_hashed (s := { s' with toks := s'.toks + 1 }) hk2 hk3 hS' hroom fun _ h' hsb hS2 => ?_
    rw [← take_firstK hk1] at hS2
    refine wpAny_pure ⟨plainId_quiet F.plain_set_update_loop _, ih (i + 1) _ (by omega) hlt (W.frame _ s' _ _ hst' (Nat.le_succ _) fun b hb o e => ?_) hS2 fun s'' hm'' hS'' => ?_⟩
    · rw [hsb.2 b (fun h : b = S => hSf (by rw [← h]; exact hb))]; exact e
    · refine hR s'' (Moved.trans W.gtrans ((hm.mono hsub).then_heap (Nat.le_succ _) fun b o hb e => ?_) hm'') hS''
      rw [hsb.2 b (fun h : b = S => hb (by rw [h]; exact List.mem_cons_self))]; exact e
end
section
variable {prog : Program} {w : World} {A : Around} {E : Value → Shared → Prop} {s : Shared}
theorem code_set_led1 (a : Value) {Q₁ : Value → Shared → Prop}
    (h : Q₁ (.ref s.heap.objs.size) { s with heap := s.heap.push { cls := .type "set", dict := none, data := .set #[] 0 (.fresh 0 0 (!w.params.followText "set-order")) } }) :
    codeAny (model prog w) A (.call (.builtin "set.__new__") ⟨[.type "set", a], []⟩) (wants Q₁ E) s := by
  refine codeAny_of_tree ?_
  show wpAny _ A.in1 (do checkBuiltinCall "set.__new__" ⟨[.type "set", a], []⟩; again (.builtin "set.__new__" ⟨[.type "set", a], []⟩)) _ _ s
  refine wpAny_bind (wpAny_of_eq (PySem.F.newCall_set_1 a) (wpAny_pure ⟨plainId_quiet PySem.F.plain_set_new _, codeAny_builtin PySem.F.entry_set_new ?_⟩))
  rw [Around.under_plainId PySem.F.plain_set_new _]
  unfold Builtin.«set.__new__» Builtin.Frozenset.newClass
  have hsub := sub_set_self
  obtain ⟨hp, g, d, tk, os⟩ := s
  dsimp only
  wp_walk
  refine wpAny_askSetting (wpAny_pure ?_)
  dsimp only
  simp only [newObj]
  refine wpAny_bind (wpAny_alloc (wpAny_pure ?_))
  exact wpAny_pure h
theorem setM_fresh {h : Heap} (w : World) (P : Program) : SetM P w (h.push { cls := .type "set", dict := none, data := .set #[] 0 (.fresh 0 0 (!w.params.followText "set-order")) }) h.objs.size [] :=
  ⟨_, #[], 0, _, [], Heap.get?_push_size _ rfl, ⟨rfl, rfl, rfl⟩, rfl, .nil, (by simp), .refl _, (by decide), (by rfl), List.Pairwise.nil, by
    show _ ∨ (!w.params.followText "set-order") = true
    cases w.params.followText "set-order"
    · exact .inr rfl
    · exact .inl rfl⟩
theorem call_set_listM {l : Addr} {items : Array Value} {ks : List Key} {Q : Value → Shared → Prop}
    (hh : A.handled = none) (hl : s.heap.IsList l items) (hsz : items.size = ks.length) (hi : ∀ (i : Nat) (v : Value), items[i]? = some v → ∃ k, ks[i]? = some k ∧ (mixKind prog w).is k v = true ∧ v.scannable = true) (hb : ks.length + 1 < scanBound)
    (h : ∀ (h' : Heap) (tk : Nat), SetM prog w h' s.heap.objs.size (firstK ks) → (∀ b o, b < s.heap.objs.size → s.heap.get? b = some o → h'.get? b = some o) → Q (.ref s.heap.objs.size) { s with heap := h', toks := tk }) :
    wpAny (model prog w) A (call (.type "set") [.ref l]) Q E s := by
  obtain ⟨c, tl, hmro⟩ := PySem.F.called_set.mro
  have hmade := PySem.F.called_set.made
  have hsub := PySem.F.called_set.sub
  refine wpAny_call (codeAny_of_tree ?_)
  show wpAny _ _ (callAny (.type "set") _) _ _ _
  refine wpAny_pure ⟨Code.quiet_builtin _ (by decide +kernel), codeAny_builtin PySem.F.entry_type_call ?_⟩
  rw [Around.under_plain (weight_type_call_type "set" [.ref l] []) rfl]
  have h1 := PySem.F.called_set.notType
  have h2 := PySem.F.called_set.canCreate
  have hct := PySem.F.typeCall_set_1 (.ref l)
  repeat (any_goals (first | assumption | wp_step))
  refine codeAny_mono (code_set_led1 (.ref l) (E := E) (Q₁ := fun obj s₁ => obj = .ref s.heap.objs.size ∧ s₁ = { s with heap := s.heap.push { cls := .type "set", dict := none, data := .set #[] 0 (.fresh 0 0 (!w.params.followText "set-order")) } }) ⟨rfl, rfl⟩) fun r s₁ hr => ?_
  cases r with
  | error e => exact hr
  | ok fl =>
    cases fl with
    | ret obj =>
      obtain ⟨rfl, rfl⟩ := hr
      generalize hled : (!w.params.followText "set-order") = led
      have hS : (s.heap.push { cls := .type "set", dict := none, data := .set #[] 0 (.fresh 0 0 led) }).get? s.heap.objs.size = some { cls := .type "set", dict := none, data := .set #[] 0 (.fresh 0 0 led) } := Heap.get?_push_size _ rfl
      have hT : Shared.TypeIs { s with heap := s.heap.push { cls := .type "set", dict := none, data := .set #[] 0 (.fresh 0 0 led) } } (.ref s.heap.objs.size) "set" := ⟨_, hS, rfl⟩
      have hli := PySem.F.called_set.init.lookup
      have hbi := PySem.F.called_set.init.bind (.ref s.heap.objs.size)
      repeat (any_goals (first | assumption | wp_step))
      refine codeAny_mono (codeAny_call_builtin (R := wants (fun r s₂ => r = .none ∧ ∃ h' tk, s₂ = { s with heap := h', toks := tk } ∧ SetM prog w h' s.heap.objs.size (firstK ks) ∧
          (∀ b o, b < s.heap.objs.size → s.heap.get? b = some o → h'.get? b = some o)) E) PySem.F.called_set.init.plain PySem.F.entry_set_init (check_set_init_1 hT ?_)) fun r₂ s₂ hr₂ => ?_
      · obtain ⟨ol, hol, hcl, nl, hdl⟩ := hl
        obtain ⟨ocls, odict, odata, oslots⟩ := ol
        simp only at hcl hdl
        subst hcl; subst hdl
        have hol' : (s.heap.push { cls := .type "set", dict := none, data := .set #[] 0 (.fresh 0 0 led) }).get? l = some { cls := .type "list", dict := odict, data := .seq items nl, slots := oslots } := Heap.get?_push_of_some _ hol
        have hsls := PySem.F.sub_list_set
        have hslf := PySem.F.sub_list_frozenset
        have hne : (Value.type "list" == Value.type "dict") = false := by decide
        have hl1 : (s.heap.push { cls := .type "set", dict := none, data := .set #[] 0 (.fresh 0 0 led) }).IsList l items := ⟨_, hol', rfl, nl, rfl⟩
        unfold Builtin.«set.__init__» noKeywords Builtin.Frozenset.updateFrom
        generalize hPI : pyIter = PI
        wp_walk
        subst hPI
        refine wpAny_pyIter_list hl1 ?_
        refine wpAny_bind (wpAny_runValue ?_)
        have hlS : l < s.heap.objs.size := Heap.lt_size hol
        have hh3 : A.in1.in1.in1.handled = none := by simp [hh]
        have hneI : l ≠ (s.heap.push { cls := .type "set", dict := none, data := .set #[] 0 (.fresh 0 0 led) }).objs.size := by
          rw [Heap.size_push]; exact Nat.ne_of_lt (Nat.lt_succ_of_lt hlS)
        have hSf : s.heap.objs.size ∉ [(s.heap.push { cls := .type "set", dict := none, data := .set #[] 0 (.fresh 0 0 led) }).objs.size, l] := by
          rw [Heap.size_push]; simp only [List.mem_cons, List.mem_singleton, List.not_mem_nil, or_false, not_or]
          exact ⟨Nat.ne_of_lt (Nat.lt_succ_self _), Nat.ne_of_gt hlS⟩
        have W := (Walks.list (prog := prog) (w := w) hh3 _ l hneI items).toS
        rw [hsz] at W
        refine set_update_loopM (ks := ks) W s.heap.objs.size hSf (fun i v hv => hi i v hv) hb (ks.length - 0) 0 _ (by omega) (Nat.zero_le _)
          ⟨⟨_, Heap.get?_push_size _ rfl, rfl, rfl⟩, (hl1.push _)⟩ ?hS0 ?hR
        case hS0 =>
          have hf := setM_fresh (h := s.heap) w prog
          rw [hled] at hf
          exact hf.at fun o e => Heap.get?_push_of_some _ e
        case hR =>
          intro s' hm hS'
          obtain ⟨h', g', d', tk', os'⟩ := s'
          have eg : g' = s.gens := hm.gens
          have ed : d' = s.drawn := hm.drawn
          have eo : os' = s.os := hm.os
          subst eg; subst ed; subst eo
          show wpAny _ _ _ _ _ _
          refine wpAny_pure ?_
          show wpAny _ _ (ret Value.none) _ _ _
          refine wpAny_pure ⟨rfl, h', tk', rfl, hS', fun b o hb e => ?_⟩
          have hb1 : b ≠ s.heap.objs.size := Nat.ne_of_lt hb
          have hb2 : b ≠ (s.heap.push { cls := .type "set", dict := none, data := .set #[] 0 (.fresh 0 0 led) }).objs.size := by
            rw [Heap.size_push]; exact Nat.ne_of_lt (Nat.lt_succ_of_lt hb)
          exact hm.heap b o (by simp only [List.mem_cons, List.mem_singleton, List.not_mem_nil, or_false, not_or]; exact ⟨hb1, hb2⟩) (Heap.get?_push_of_some _ (Heap.get?_push_of_some _ e))
      · cases r₂ with
        | error e => exact hr₂
        | ok fl₂ =>
          cases fl₂ with
          | ret r =>
            obtain ⟨rfl, h', tk, rfl, hS', hk'⟩ := hr₂
            repeat (any_goals (first | assumption | wp_step))
            exact h _ _ hS' hk'
          | _ => exact hr₂.elim
    | _ => exact hr.elim
end
/-! ### seen from the walk -/
section
variable {X : Cx}
/-- set(xs) of keys -/
def rSetM (P : Program) (w : World) (K : PySem.W.Frag) : List V → Hp → VK → Prop := fun vs H Q => ∃ (a : Addr) (ks : List Key), vs = [.ref a] ∧ SqL K H a (ks.map kV) ∧ ks.length + 1 < scanBound ∧ ∀ p, H p = none → Q (.ref p) (upd H p (setO P w p (firstK ks)))
theorem cr_setM {P : Program} {w : World} {K : PySem.W.Frag} (hP : X.prog = P) (hw : X.w = w) (hK : X.K = K) (hc : X.calm = true) : CallR X (.type "set") (rSetM P w K) := by
  subst hP hw hK
  intro pins s σ H vs us Q I r h
  obtain ⟨a, ks, rfl, hs, hb, q⟩ := h
  obtain ⟨its, rv, hl, hz⟩ := I.list hs
  obtain ⟨u, rfl, ru⟩ := vals1 r
  obtain rfl : u = Value.ref a := ru
  have hlen : its.length = ks.length := by have := rv.length; rw [List.length_map] at this; exact this.symm
  refine call_set_listM (ks := ks) (I.ok.hd hc) hl.isList (by simpa using hlen) (fun i v hv => ?_) hb fun h' tk hS hk => ?_
  · have hv' : its[i]? = some v := by simpa using hv
    obtain ⟨x, hx, hxv⟩ := pr_get rv hv'
    rw [List.getElem?_map] at hx
    obtain ⟨k, hk, rfl⟩ := Option.map_eq_some_iff.mp hx
    exact ⟨k, hk, kV_is hxv, key_scan hxv⟩
  · exact ⟨.ref _, upd H s.heap.objs.size (setO X.prog X.w s.heap.objs.size (firstK ks)), I.laid (t' := tk) (fun b u e => hk b u (Heap.lt_size e) e) (Nat.le_refl _) (setO_new hS), rfl, q _ (I.hok.fresh (Nat.le_refl _))⟩
/-- sorted(a set of keys alike) -/
def rSortM (P : Program) (w : World) : List V → Hp → VK → Prop := fun vs H Q => ∃ (a : Addr) (ks : List Key), vs = [.ref a] ∧ H a = some (setO P w a ks) ∧ PySem.W.AllAlike (ks.map keyD) ∧ ∀ kl : List Key, kl.Perm ks → NewK (.lst ((kl.mergeSort fun k l => leD (keyD k) (keyD l)).map kV)) Q H
theorem each_keys {H : Hp} {K : PySem.W.Frag} {P : Program} {w : World} : ∀ {vs : List Value} {kl : List Key}, Paired (fun v k => (mixKind P w).is k v = true) vs kl → PySem.W.EachIs (fun (v : Value) (b : V × Key) => RelV b.1 v ∧ Dp K H b.1 (keyD b.2)) vs (kl.map fun k => (kV k, k))
  | _, _, .nil => .nil
  | _, _, .cons r t => .cons ⟨keyIs_rel r, dp_key _⟩ (each_keys t)
theorem pr_vals {P : Program} {w : World} : ∀ {l : List (Int × Value)} {kl : List Key}, Paired (GoodK P w) l kl → Paired (fun v k => (mixKind P w).is k v = true) (l.map (·.2)) kl
  | _, _, .nil => .nil
  | _, _, .cons r t => .cons r.1 (pr_vals t)
theorem cr_sortM {P : Program} {w : World} (hP : X.prog = P) (hw : X.w = w) (hc : X.calm = true) (hu : X.A.units + 64 < cLine) : CallR X (.builtin "sorted") (rSortM P w) := by
  subst hP hw
  intro pins s σ H vs us Q I r h
  obtain ⟨a, ks, rfl, ha, hal, q⟩ := h
  obtain ⟨u, rfl, ru⟩ := vals1 r
  obtain rfl : u = Value.ref a := ru
  obtain ⟨o, es, ep, t, kl, ho, hex, hd, g, nd, hm, hb, hf, hr, hl⟩ := (show SetM X.prog X.w s.heap a ks from (I.hok a _ ha).1)
  refine Calls.call_function_entry kind_sorted plain_sorted entry_sorted (args_sorted1 _) ?_
  unfold Builtin.«sorted»
  refine wpAny_bind (m := checkCount "sorted" 1 1 _) (wpAny_pure ?_)
  refine wpAny_bind (collect_set (A := X.A.in1) (I.ok.hd hc) ⟨o, ho, hex.1, hd⟩ hf hb hr hl fun s1 vs k1 hz g1 o1 pm => ?_)
  obtain ⟨hp, gg, dd, tk, oo⟩ := s1
  have g1 : gg = s.gens := g1
  have o1 : oo = s.os := o1
  subst g1 o1
  have I1 : Inv X pins σ H { s with heap := hp, gens := s.gens, drawn := dd, toks := tk } := I.call (ch := []) (Un.kept k1) (I.hok.kept k1) I.bare (fun _ z => nomatch z)
  obtain ⟨kl2, pk, gv⟩ := paired_perm pm (pr_vals g)
  have eb := each_keys (K := X.K) (H := H) gv
  have pks : kl2.Perm ks := pk.trans hm
  have al2 : PySem.W.AllAlike ((kl2.map fun k => (kV k, k)).map fun b : V × Key => keyD b.2) := by
    rw [List.map_map]
    intro d hd e he
    refine hal d ?_ e ?_
    · obtain ⟨k, hk, rfl⟩ := List.mem_map.mp hd
      exact List.mem_map.mpr ⟨k, pks.mem_iff.mp hk, rfl⟩
    · obtain ⟨k, hk, rfl⟩ := List.mem_map.mp he
      exact List.mem_map.mpr ⟨k, pks.mem_iff.mp hk, rfl⟩
  have sk2 : PySem.W.Sortable ((kl2.map fun k => (kV k, k)).map fun b : V × Key => keyD b.2) := by
    have := sortable_keys (l := kl2)
    rw [List.map_map]
    exact this
  have hal1 : vs.length ≤ sizeLine := by
    rw [pm.length_eq, List.length_map, Array.length_toList]
    exact fits_of_scanBound hb
  refine wpAny_bind (wpAny_newList ?_ hal1)
  have hoL : (hp.push (seqObj "list" vs.toArray 0)).get? hp.objs.size = some (seqObj "list" vs.toArray 0) := Heap.get?_push_size _ rfl
  show wpAny _ _ _ _ _ { s with heap := hp.push (seqObj "list" vs.toArray 0), gens := s.gens, drawn := dd, toks := tk }
  have up : ∀ (b : Addr) (o : Obj), hp.get? b = some o → (PySem.W.sortingHeap (hp.push (seqObj "list" vs.toArray 0)) hp.objs.size vs).get? b = some o := fun b o e =>
    PySem.W.sortingHeap_old (Nat.ne_of_lt (Heap.lt_size e)) (Heap.get?_push_of_some _ e)
  have er : PySem.W.EachIs (fun (v : Value) (b : V × Key) => ∃ as, Reads (PySem.W.sortingHeap (hp.push (seqObj "list" vs.toArray 0)) hp.objs.size vs) v (keyD b.2) as) vs (kl2.map fun k => (kV k, k)) := eb.mono fun v b hb => by
    obtain ⟨as, h1⟩ := Dp.reads I1 _ b.1 v hb.2 hb.1
    exact ⟨as, PyProof.Rows.Reads.keeps up h1⟩
  refine wpAny_bind (wpAny_holding (wpAny_call_entry slot_list_sort ⟨_, hoL, rfl⟩ entry_list_sort
    (PySem.W.list_sort_vals (s := { s with heap := hp.push (seqObj "list" vs.toArray 0), gens := s.gens, drawn := dd, toks := tk }) hoL
      (PySem.W.SortsAt.data (s := { s with heap := PySem.W.sortingHeap (hp.push (seqObj "list" vs.toArray 0)) hp.objs.size vs, gens := s.gens, drawn := dd, toks := tk }) (PySem.W.each_map (R := fun v d => ∃ as, Reads (PySem.W.sortingHeap (hp.push (seqObj "list" vs.toArray 0)) hp.objs.size vs) v d as) (fun b : V × Key => keyD b.2) er) al2 sk2 (fun d hd => ?_)) hal1 ⟨_, rfl, ?_⟩) (args_list_sort _)))
  · obtain ⟨b, hb, rfl⟩ := List.mem_map.mp hd
    have := keyD_dep b.2
    show X.A.units + 1 + 1 + (keyD b.2).depth < cLine
    omega
  · have ho := PySem.W.sortVals_data false eb er al2
    have hv := vals_each ho
    obtain ⟨e', he'⟩ := sortedHeap_at (vs := vs) (out := (PySem.W.sortVals (PySem.W.dataKind (PySem.W.sortingHeap (hp.push (seqObj "list" vs.toArray 0)) hp.objs.size vs) ((kl2.map fun k => (kV k, k)).map fun b => keyD b.2)) false vs vs).toArray) hoL
    have e2 : ((kl2.map fun k => (kV k, k)).mergeSort fun p q => leD (keyD p.2) (keyD q.2)).map (·.1) = (kl2.mergeSort fun k l => leD (keyD k) (keyD l)).map kV := by
      rw [← List.map_mergeSort (r := fun k l => leD (keyD k) (keyD l)) (f := fun k => (kV k, k)) (fun _ _ _ _ => rfl), List.map_map]
      rfl
    have hv2 : Vals ((kl2.mergeSort fun k l => leD (keyD k) (keyD l)).map kV) _ := e2 ▸ hv
    refine wpAny_pure ⟨_, rfl, .ref hp.objs.size, upd H hp.objs.size (.lst ((kl2.mergeSort fun k l => leD (keyD k) (keyD l)).map kV)), I1.laid (t' := tk) (fun b u e => ?_) (Nat.le_refl _) (show ObjOk X.prog X.w _ _ _ (.lst _) from ⟨?_, _, e', hv2, he'⟩), rfl, q kl2 pks _ (I1.hok.fresh (Nat.le_refl _))⟩
    · have hb : b < hp.objs.size := Heap.lt_size e
      rw [sortedHeap_old (Nat.ne_of_lt hb) (by rw [size_push']; exact Nat.lt_succ_of_lt hb)]
      exact Heap.get?_push_of_some _ e
    · rw [List.length_map, List.length_mergeSort]
      have h3 : vs.length = (kl2.map fun k => (kV k, k)).length := eb.length
      rw [List.length_map] at h3
      rw [← h3]
      exact hal1
/-- len(a set) -/
def rLenM (P : Program) (w : World) : List V → Hp → VK → Prop := fun vs H Q => ∃ (a : Addr) (ks : List Key), vs = [.ref a] ∧ H a = some (setO P w a ks) ∧ Q (.int ks.length) H
end
end Y
/-! sorted(xs, key=f), f a def that changes nothing and gives ints. -/
namespace Y
open PySem PySem.Calls PySem.Spec PyProof.Rows L2 PySem.W
def Kp2 (a c : Addr) (h h' : Heap) : Prop := ∀ b o, b ≠ a → b ≠ c → h.get? b = some o → h'.get? b = some o
section
variable {prog : Program} {w : World} {A : Around} {E : Value → Shared → Prop} {s : Shared} {a kS : Addr} {b : Bool} {vs : List Value} {keys : Array Value} {e e1 : Nat} {P : PySem.Fin → Shared → Prop} {kz : List PyData}
theorem keyJ_tail {st : SortSt} {out : List Value} (nk : s.heap.get? kS = some (seqObj "list" keys e)) (na : s.heap.get? a = some (seqObj "list" #[] e1)) (hka : kS ≠ a)
    (hsz : keys.size ≤ sizeLine) (hz : out.length ≤ sizeLine) (hfl : failedOf st = none) (ho : (if b = true then ((arrOf st).map (·.2)).reverse else (arrOf st).map (·.2)) = out.toArray)
    (h : ∀ h' tk c, Kp2 a kS s.heap h' → (∃ o, h'.get? kS = some o) → h'.get? a = some (seqObj "list" out.toArray c) → P (.done (.ret .none)) { s with heap := h', toks := tk }) :
    wpAny (model prog w) A (ksk_tail a b e1 (.ref kS) st) P E s := by
  have s1 := Heap.SameBut.update s.heap kS (Obj.mapSeq fun _ => (#[] : Array Value))
  have na1 : (s.heap.update kS (Obj.mapSeq fun _ => (#[] : Array Value))).get? a = some (seqObj "list" #[] e1) := (s1.2 a hka.symm).trans na
  have s2 := Heap.SameBut.update (s.heap.update kS (Obj.mapSeq fun _ => (#[] : Array Value))) a (Obj.mapSeq fun _ => out.toArray)
  obtain ⟨c2, hc2⟩ : ∃ c2, ((s.heap.update kS (Obj.mapSeq fun _ => (#[] : Array Value))).update a (Obj.mapSeq fun _ => out.toArray)).get? a = some (seqObj "list" out.toArray c2) :=
    ⟨_, get?_update_seq na1 fun _ => out.toArray⟩
  obtain ⟨c3, hc3⟩ : ∃ c3, (s.heap.update kS (Obj.mapSeq fun _ => (#[] : Array Value))).get? kS = some (seqObj "list" #[] c3) := ⟨_, get?_update_seq nk fun _ => #[]⟩
  have hz2 : out.toArray.size ≤ sizeLine + 1 := by
    rw [List.size_toArray]
    exact Nat.le_succ_of_le hz
  unfold ksk_tail
  try dsimp only
  rw [ho]
  refine wpAny_bind (listUpdate_at nk rfl ?_ hsz (Nat.zero_le _))
  refine wpAny_bind (wpAny_letGo ?_)
  refine wpAny_bind (seqEpoch_at na1 rfl ?_)
  refine wpAny_bind (listUpdate_at na1 rfl ?_ (Nat.zero_le _) hz2)
  rw [hfl]
  simp only [bne_self_eq_false, Bool.false_eq_true, if_false]
  exact wpAny_pure (h _ _ c2 (fun b o hb hc q => (s2.2 b hb).trans ((s1.2 b hc).trans q)) ⟨_, (s2.2 kS hka).trans hc3⟩ hc2)
theorem keyJ_end {κ : PyProof.Rows.KeyKind} (nk : s.heap.get? kS = some (seqObj "list" keys e)) (na : s.heap.get? a = some (seqObj "list" #[] e1)) (hka : kS ≠ a)
    (S : SortsAt prog w A s κ keys.toList) (hsz : keys.size = vs.length) (hZ : vs.length ≤ sizeLine)
    (h : ∀ h' tk c, Kp2 a kS s.heap h' → (∃ o, h'.get? kS = some o) → h'.get? a = some (seqObj "list" (sortVals κ b keys.toList vs).toArray c) → P (.done (.ret .none)) { s with heap := h', toks := tk }) :
    wpAny (model prog w) A (ksk_end a b vs.toArray e1 (.ref kS) keys) P E s := by
  obtain ⟨kd, h1, h2⟩ := S.kind
  have hkl : keys.toList.length = vs.length := by
    rw [Array.length_toList]
    exact hsz
  have hK : PyProof.Rows.KeysOf κ (keys.zip vs.toArray) := keysOf_zip S.keys
  have hol : (sortVals κ b keys.toList vs).length = vs.length := sortVals_length b hkl
  have hstart : (if b = true then (keys.zip vs.toArray).reverse else keys.zip vs.toArray).Perm (keys.zip vs.toArray) := by
    cases b with
    | false => exact Array.Perm.refl _
    | true => exact Array.perm_iff_toList_perm.mpr (by rw [if_pos rfl, Array.toList_reverse]; exact List.reverse_perm _)
  have hss : (if b = true then (keys.zip vs.toArray).reverse else keys.zip vs.toArray).size = vs.length := by rw [hstart.size_eq, Array.size_zip, hsz, List.size_toArray, Nat.min_self]
  have fin : ∀ st' : SortSt, (arrOf st').Perm (if b = true then (keys.zip vs.toArray).reverse else keys.zip vs.toArray) → SortedToK κ (arrOf st') (if b = true then (keys.zip vs.toArray).reverse else keys.zip vs.toArray).size →
      Stable κ (arrOf st') (if b = true then (keys.zip vs.toArray).reverse else keys.zip vs.toArray) → (if b = true then ((arrOf st').map (·.2)).reverse else (arrOf st').map (·.2)) = (sortVals κ b keys.toList vs).toArray := by
    intro st' hp hs ht
    have e := sort_out (rev := b) (keys := keys) (items := vs.toArray) (xs := arrOf st') (κ := κ) hK hp hs ht
    have e' := congrArg List.toArray e
    rw [Array.toArray_toList] at e'
    exact e'
  have step : ∀ t : Sem PySem.Fin, wpAny (model prog w) A t P E s → wpAny (model prog w) A (if b = true then (do let _ ← rule "list.sort.reverse"; t) else t) P E s := by
    intro t ht
    split
    · exact wpAny_bind (wpAny_rule ht)
    · exact ht
  unfold ksk_end
  try dsimp only
  refine step _ ?_
  by_cases hl2 : vs.toArray.size < 2
  · rw [if_pos hl2, if_pos hl2]
    refine wpAny_bind (wpAny_pure ?_)
    rw [StateT.run_pure]
    refine wpAny_bind (wpAny_pure ?_)
    try dsimp only
    refine keyJ_tail (st := SortSt.mk' general' (if b = true then (keys.zip vs.toArray).reverse else keys.zip vs.toArray) #[] 7 none) nk na hka (by rw [hsz]; exact hZ) (by rw [hol]; exact hZ) rfl (fin _ (Array.Perm.refl _) ?_ (Stable.refl _)) h
    intro i j hij hj
    rw [hss] at hj
    rw [List.size_toArray] at hl2
    have : i = j := by omega
    subst this
    exact KeyOrd.kle_refl _
  · rw [if_neg hl2, if_neg hl2]
    rw [List.size_toArray] at hl2
    refine wpAny_bind (h2 (by omega) _ ?_)
    refine wpAny_bind (wpAny_mono (H.wpS_sortRunsSt (κ := κ) (kd := kd) (a₀ := if b = true then (keys.zip vs.toArray).reverse else keys.zip vs.toArray)
      (st := SortSt.mk' kd (if b = true then (keys.zip vs.toArray).reverse else keys.zip vs.toArray) #[] 7 none)
      (Q := fun _ st' => failedOf st' = none ∧ (if b = true then ((arrOf st').map (·.2)).reverse else (arrOf st').map (·.2)) = (sortVals κ b keys.toList vs).toArray)
      h1 (hK.perm hstart) ⟨Array.Perm.refl _, rfl, rfl⟩ rfl (Stable.refl _) (by rw [hss]; omega) fun st' a1 a2 a3 a4 => ⟨a2, fin st' a1 a3 a4⟩) ?_ fun _ _ e => e)
    rintro ⟨⟨⟩, st'⟩ s' ⟨rfl, hf, ho⟩
    try dsimp only at ho ⊢
    exact keyJ_tail nk na hka (by rw [hsz]; exact hZ) (by rw [hol]; exact hZ) hf ho h
end
section
variable {X : Cx}
/-- what holds between the first state and one while the keys are told -/
structure Bet (X : Cx) (H : Hp) (s : Shared) (H1 : Hp) (s1 : Shared) : Prop where
  os : s1.os = s.os
  bare : AllBare s1.gens
  un : Un (frs X.stack) [] H H1 s.heap s1.heap
  hok : HOk X.prog X.w H1 s1.heap
  same : Same H H1
/-- an object that is not tracked and was not there at first is changed -/
theorem Bet.turn {H H1 : Hp} {s s1 : Shared} {c : Addr} {h2 : Heap} {tk : Nat} (B : Bet X H s H1 s1) (h0 : s.heap.get? c = none) (hc : H1 c = none) (k : ∀ b o, b ≠ c → s1.heap.get? b = some o → h2.get? b = some o) : Bet X H s H1 { s1 with heap := h2, toks := tk } := by
  have ne : ∀ b o, s.heap.get? b = some o → b ≠ c := fun b o q z => by rw [z, h0] at q; cases q
  refine ⟨B.os, B.bare, ⟨fun b o q n hb hx => k b o (ne b o q) (B.un.keep b o q n hb hx), fun b o q n hb hx => ?_, B.un.free, fun b o q hx => ?_, B.un.tups, B.un.frzs, B.un.tbls⟩, fun b u q => ?_, B.same⟩
  · obtain ⟨sl, hs⟩ := B.un.slot b o q n hb hx
    exact ⟨sl, k b _ (ne b o q) hs⟩
  · obtain ⟨o', hs⟩ := B.un.there b o q hx
    exact ⟨o', k b _ (ne b o q) hs⟩
  · have nit : ∀ b u, H1 b = some u → b ≠ c := fun b u e z => by rw [z, hc] at e; cases e
    refine (B.hok b u q).stay (fun d v hd q2 => k d v ?_ q2) (fun _ q => q) fun _ _ q => q
    rcases hd with z | z
    · rw [z]; exact nit b u q
    · exact nit d _ z
theorem Bet.refl {H : Hp} {s : Shared} {pins : List (Addr × Obj)} {σ : L2.St} (I : Inv X pins σ H s) : Bet X H s H s := ⟨rfl, I.bare, Un.refl, I.hok, Same.refl _⟩
theorem Bet.kept {H H1 : Hp} {s s1 : Shared} {h2 : Heap} {tk : Nat} (B : Bet X H s H1 s1) (k : ∀ b o, s1.heap.get? b = some o → h2.get? b = some o) : Bet X H s H1 { s1 with heap := h2, toks := tk } :=
  ⟨B.os, B.bare, B.un.trans (Un.kept k), B.hok.kept k, B.same⟩
theorem Bet.inv {H H1 : Hp} {s s1 : Shared} {pins : List (Addr × Obj)} {σ : L2.St} (B : Bet X H s H1 s1) (I : Inv X pins σ H s) : Inv X pins σ H1 s1 := I.call' B.os B.un B.hok B.bare fun b z => absurd z (by simp)
/-- sorted(xs, key=f) -/
def rSortKey (sp : Sp) (K : PySem.W.Frag) : List V → Hp → VK → Prop := fun vs H Q => ∃ (a : Addr) (xs : List V) (ks : List Int), vs = [.ref a] ∧ SqL K H a xs ∧ ks.length = xs.length ∧
  (∀ (i : Nat) (x : V) (k : Int), xs[i]? = some x → ks[i]? = some k → ∀ H1, Same H H1 → ∀ E, sp [x] H1 (fun v H2 => v = .int k ∧ Same H1 H2) E) ∧
  ∀ H1, Same H H1 → NewK (.lst (((xs.zip ks).mergeSort fun p q => decide (p.2 ≤ q.2)).map (·.1))) Q H1
theorem each_vals : ∀ {xs : List V} {us : List Value} {ks : List Int}, Vals xs us → ks.length = xs.length → EachIs (fun (v : Value) (b : V × Int) => RelV b.1 v) us (xs.zip ks)
  | _, _, [], .nil, _ => .nil
  | _, _, _ :: _, .nil, h => by cases h
  | _, _, [], .cons _ _, h => by cases h
  | _, _, k :: ks, .cons r t, h => .cons r (each_vals t (by simpa using h))
theorem vals_eachK : ∀ {out : List Value} {bs : List (V × Int)}, EachIs (fun (v : Value) (b : V × Int) => RelV b.1 v) out bs → Vals (bs.map (·.1)) out
  | _, _, .nil => .nil
  | _, _, .cons r t => .cons r (vals_eachK t)
theorem sortKey_run {K : PySem.W.Frag} {k : Nat} {f : Addr} {fd : FuncData} {ps : List Str} {sp : Sp} (hK : X.K = K) (F : FnOk X.prog X.w X.K X.mg X.base CX0 k f fd ps sp) (hr : Room (k + 2) X.A) (hb : Binds X.K fd ps [])
    {pins : List (Addr × Obj)} {s : Shared} {σ : L2.St} {H : Hp} {vs : List V} {us : List Value} {Q : VK} (I : Inv X pins σ H s) (r : Vals vs us) (h : rSortKey sp K vs H Q) : wpAny (model X.prog X.w) X.A (call (.builtin "sorted") us ([Str.ofString "key"].zip [Value.ref f])) (EP X pins σ Q) X.xe s := by
  subst hK
  obtain ⟨l, xs, ks, rfl, hs, hlen, turn, q⟩ := h
  obtain ⟨its, rv, hl, hz⟩ := I.list hs
  obtain ⟨u, rfl, ru⟩ := vals1 r
  obtain rfl : u = Value.ref l := ru
  have hil : its.length = xs.length := rv.length.symm
  have hZ : its.length ≤ sizeLine := by rw [hil]; exact hz
  have hal : AllAlike (ks.map PyData.int) := fun d hd d' hd' => by
    obtain ⟨x, _, rfl⟩ := List.mem_map.mp hd
    obtain ⟨y, _, rfl⟩ := List.mem_map.mp hd'
    simp [PySem.W.alike]
  have hsk : Sortable (ks.map PyData.int) := .inr fun d hd => by
    obtain ⟨x, _, rfl⟩ := List.mem_map.mp hd
    exact ⟨(fun z => by cases z), (fun _ z => by cases z)⟩
  have hr2 : Room k X.A.in1.in1 := (show Room (k + 1) X.A.in1 from Room.in1 hr).in1
  refine sorted_of_sort hl.isList hZ (PyProof.Rows.ksk_s1 _ _) (fun _ => PyProof.Rows.ksk_l1 _ _) fun E' => ?_
  rw [show Builtin.«list.sort» ⟨[.ref (s.heap.objs.size + 1)], [Str.ofString "key"].zip [Value.ref f]⟩ = ksk_tree (s.heap.objs.size + 1) (.ref f) false from PyProof.Rows.ksk_t1 _ _]
  have ho := copyHeap_at s.heap its
  have up0 : ∀ b o, s.heap.get? b = some o → (copyHeap s.heap its).get? b = some o := fun b o q => copyHeap_old q
  generalize hg0 : copyHeap s.heap its = hc at ho up0 ⊢
  have ha0 : s.heap.get? (s.heap.objs.size + 1) = none := Heap.get?_none_of_le (Nat.le_succ _)
  generalize hae : s.heap.objs.size + 1 = a at ho ha0 ⊢
  obtain ⟨e0, ho⟩ : ∃ e0, hc.get? a = some (seqObj "list" its.toArray e0) := ⟨_, ho⟩
  have ha : a < hc.objs.size := Heap.lt_size ho
  obtain ⟨e1, ho1⟩ : ∃ e1, (hc.update a (Obj.mapSeq fun _ => (#[] : Array Value))).get? a = some (seqObj "list" #[] e1) := ⟨_, get?_update_seq ho fun _ => #[]⟩
  have s1 := Heap.SameBut.update hc a (Obj.mapSeq fun _ => (#[] : Array Value))
  unfold ksk_tree
  refine wpAny_bind (listItems_at ho rfl ?_)
  refine wpAny_bind (listUpdate_at ho rfl ?_ (by rw [List.size_toArray]; exact hZ) (Nat.zero_le _))
  refine wpAny_bind (seqEpoch_at ho1 rfl ?_)
  refine wpAny_bind (wpAny_newTuple ?_ (by show its.length ≤ _; exact hZ))
  refine wpAny_bind (wpAny_newList ?_ (Nat.zero_le _))
  refine wpAny_holding ?_
  have hkS : ((hc.update a (Obj.mapSeq fun _ => (#[] : Array Value))).push (seqObj "tuple" its.toArray 0)).objs.size = hc.objs.size + 1 := by rw [size_push', Heap.size_update]
  have hH1 : ((hc.update a (Obj.mapSeq fun _ => (#[] : Array Value))).push (seqObj "tuple" its.toArray 0)).push (seqObj "list" #[] 0) = ((hc.update a (Obj.mapSeq fun _ => (#[] : Array Value))).push (seqObj "tuple" its.toArray 0)).push (seqObj "list" #[] 0) := rfl
  have nk0 : (((hc.update a (Obj.mapSeq fun _ => (#[] : Array Value))).push (seqObj "tuple" its.toArray 0)).push (seqObj "list" #[] 0)).get? ((hc.update a (Obj.mapSeq fun _ => (#[] : Array Value))).push (seqObj "tuple" its.toArray 0)).objs.size = some (seqObj "list" #[] 0) := Heap.get?_push_size _ rfl
  have na0 : (((hc.update a (Obj.mapSeq fun _ => (#[] : Array Value))).push (seqObj "tuple" its.toArray 0)).push (seqObj "list" #[] 0)).get? a = some (seqObj "list" #[] e1) := Heap.get?_push_of_some _ (Heap.get?_push_of_some _ ho1)
  have hca : a ≠ ((hc.update a (Obj.mapSeq fun _ => (#[] : Array Value))).push (seqObj "tuple" its.toArray 0)).objs.size := by rw [hkS]; exact Nat.ne_of_lt (Nat.lt_succ_of_lt ha)
  have hsz0 : s.heap.objs.size ≤ hc.objs.size := by rw [← hae] at ha; omega
  have hkS0 : s.heap.get? ((hc.update a (Obj.mapSeq fun _ => (#[] : Array Value))).push (seqObj "tuple" its.toArray 0)).objs.size = none := Heap.get?_none_of_le (by rw [hkS]; omega)
  have hHa : H a = none := I.hok.fresh (by rw [← hae]; exact Nat.le_succ _)
  have hHk : H ((hc.update a (Obj.mapSeq fun _ => (#[] : Array Value))).push (seqObj "tuple" its.toArray 0)).objs.size = none := I.hok.fresh (by rw [hkS]; omega)
  have B0 : Bet X H s H { s with heap := ((hc.update a (Obj.mapSeq fun _ => (#[] : Array Value))).push (seqObj "tuple" its.toArray 0)).push (seqObj "list" #[] 0) } :=
    (Bet.refl I).kept (tk := s.toks) fun b o e => Heap.get?_push_of_some _ (Heap.get?_push_of_some _ ((s1.2 b (fun z => by rw [z, ha0] at e; cases e)).trans (up0 b o e)))
  generalize ((hc.update a (Obj.mapSeq fun _ => (#[] : Array Value))).push (seqObj "tuple" its.toArray 0)).objs.size = kS at nk0 hca hkS0 hHk ⊢
  generalize ((hc.update a (Obj.mapSeq fun _ => (#[] : Array Value))).push (seqObj "tuple" its.toArray 0)).push (seqObj "list" #[] 0) = hp0 at nk0 na0 B0 ⊢
  unfold ksk_rest
  refine wpAny_bind (wpAny_rule ?_)
  first
    | rw [List.forIn_toArray]
    | (rw [← Array.forIn_toList]; simp only [List.toList_toArray])
    | rw [← Array.forIn_toList]
  refine wpAny_bind (ksk_fold (fun i s' => ∃ H1 kA e, Bet X H s H1 s' ∧ H1 a = none ∧ H1 kS = none ∧ s'.heap.get? kS = some (seqObj "list" kA e) ∧ s'.heap.get? a = some (seqObj "list" #[] e1) ∧ EachIs (fun (v : Value) (k : Int) => RelV (.int k) v) kA.toList (ks.take i)) its 0 _
    ⟨H, #[], 0, B0, hHa, hHk, nk0, na0, by rw [List.take_zero]; exact EachIs.nil⟩ ?step ?done)
  case step =>
    rintro j x s' hx ⟨H1, kA, e, B1, n1, n2, nk', na', hk⟩
    simp only [Nat.zero_add] at hk ⊢
    have hj : j < its.length := (List.getElem?_eq_some_iff.mp hx).1
    obtain ⟨kk, hkj⟩ : ∃ kk, ks[j]? = some kk := ⟨_, List.getElem?_eq_getElem (by omega)⟩
    obtain ⟨xv, hxv, rxv⟩ := pr_get rv hx
    have hzz : kA.size ≤ its.length := by
      have h1 := hk.length
      rw [Array.length_toList, List.length_take] at h1
      omega
    have I1 := B1.inv I
    have hsp := turn j xv kk hxv hkj H1 B1.same (fun _ _ _ => False)
    have rr : Vals [xv] [x] := .cons rxv .nil
    refine wpAny_bind (wpAny_attempt (wpAny_call (codeAny_mono (F.run X.A.in1.in1 X.stack s' H1 ⟨[x], []⟩ [x] [xv] _ _ hr2 I1.env0.in1.in1 (hb s' [x] I1.kIn (by
      have := F.len _ _ _ _ hsp
      simpa using this)) rr hsp) fun r s'' hq => ?_)))
    cases r with
    | error e => exact hq.elim
    | ok fl =>
      cases fl with
      | next => exact hq.elim
      | brk => exact hq.elim
      | cont => exact hq.elim
      | ret v =>
        obtain ⟨vv, H2, os2, bare2, un2, hok2, rv2, rfl, same2⟩ := hq
        try dsimp only
        have nfr : ∀ c, s.heap.get? c = none → c ∉ frs X.stack := fun c hc z => by
          obtain ⟨o', ho', _⟩ := I.stack.mem z |>.2
          rw [hc] at ho'; cases ho'
        have nk2 : s''.heap.get? kS = some (seqObj "list" kA e) := un2.keep kS _ nk' n2 (nfr kS hkS0) (by simp)
        have na2 : s''.heap.get? a = some (seqObj "list" #[] e1) := un2.keep a _ na' n1 (nfr a ha0) (by simp)
        have n12 : H2 a = none := un2.free a _ na' n1 (by simp)
        have n22 : H2 kS = none := un2.free kS _ nk' n2 (by simp)
        have B2 : Bet X H s H2 s'' := ⟨os2.trans B1.os, bare2, B1.un.trans un2, hok2, B1.same.trans same2⟩
        have s2 := Heap.SameBut.update s''.heap kS (Obj.mapSeq (·.push v))
        obtain ⟨c2, hc2⟩ : ∃ c2, (s''.heap.update kS (Obj.mapSeq (·.push v))).get? kS = some (seqObj "list" (kA.push v) c2) := ⟨_, get?_update_seq nk2 (·.push v)⟩
        have ek : ks.take (j + 1) = ks.take j ++ [kk] := by rw [List.take_add_one, hkj]; simp
        have ea : (kA.push v).toList = kA.toList ++ [v] := by simp
        refine wpAny_bind (listUpdate_at nk2 rfl ?_ (Nat.le_trans hzz hZ) (Nat.le_trans (Nat.le_of_eq (Array.size_push ..)) (Nat.succ_le_succ (Nat.le_trans hzz hZ))))
        refine wpAny_pure ⟨rfl, H2, kA.push v, c2, B2.turn (tk := s''.toks) hkS0 n22 (fun b o hb e => (s2.2 b hb).trans e), n12, n22, hc2, (s2.2 a hca).trans na2, ?_⟩
        rw [ea, ek]
        exact each_snoc (R := fun (v : Value) (k : Int) => RelV (.int k) v) rv2 hk
  case done =>
    rintro s' ⟨H1, kA, e, B1, n1, n2, nk', na', hk⟩
    have hk1 : EachIs (fun (v : Value) (k : Int) => RelV (.int k) v) kA.toList ks := by
      have e3 : ks.take (0 + its.length) = ks := List.take_of_length_le (by omega)
      rw [e3] at hk
      exact hk
    have hk' : EachIs (fun v d => ∃ as, Reads s'.heap v d as) kA.toList (ks.map PyData.int) :=
      PySem.W.each_map (R := fun v d => ∃ as, Reads s'.heap v d as) PyData.int (hk1.mono fun v i ⟨t, ht⟩ => by
        subst ht
        exact ⟨_, .int i t⟩)
    have hsz : kA.size = its.length := by
      have h1 := hk1.length
      rw [Array.length_toList] at h1
      omega
    try dsimp only
    refine wpAny_bind (listItems_at nk' rfl ?_)
    refine keyJ_end (κ := dataKind s'.heap (ks.map PyData.int)) nk' na' hca.symm (SortsAt.data hk' hal hsk (fun d hd => ?_)) hsz hZ fun h3 tk3 c k3 n3 m3 => ⟨rfl, ?_⟩
    · obtain ⟨i, _, rfl⟩ := List.mem_map.mp hd
      have := hr.un
      show X.A.units + 1 + 1 + (PyData.int i).depth < cLine
      simp [PyData.depth]
      omega
    · have bsm : (xs.zip ks).map (fun b => PyData.int b.2) = ks.map PyData.int := by
        have : (xs.zip ks).map (·.2) = ks := List.map_snd_zip (Nat.le_of_eq hlen)
        rw [← this, List.map_map]
        rw [this]
        rfl
      have ko : KeyedOut false ((xs.zip ks).map fun b => PyData.int b.2) its (sortVals (dataKind s'.heap (ks.map PyData.int)) false kA.toList its) := by
        rw [bsm]
        exact ⟨s'.heap, kA.toList, hal, rfl, hk'⟩
      have eo := keyedOut_each (R := fun (v : Value) (b : V × Int) => RelV b.1 v) (bs := xs.zip ks) (fun b => PyData.int b.2) ko (each_vals rv hlen)
      have hle : dataLe false (fun b : V × Int => PyData.int b.2) = fun p q => decide (p.2 ≤ q.2) := by
        funext p q
        show (!PySem.W.dataLt (PyData.int q.2) (PyData.int p.2)) = _
        rw [PySem.W.dataLt_int]
        by_cases c : p.2 ≤ q.2
        · simp [c]
        · simp [c]; omega
      rw [hle] at eo
      have hv := vals_eachK eo
      have olen : (((xs.zip ks).mergeSort fun p q => decide (p.2 ≤ q.2)).map (·.1)).length ≤ sizeLine := by
        rw [List.length_map, List.length_mergeSort, List.length_zip]
        omega
      have same0 : Same H H1 := B1.same
      have B3 : Bet X H s H1 { s' with heap := h3, toks := tk3 } := by
        have ne : ∀ b o, s.heap.get? b = some o → b ≠ a ∧ b ≠ kS := fun b o q => ⟨fun z => (by rw [z, ha0] at q; cases q), fun z => (by rw [z, hkS0] at q; cases q)⟩
        refine ⟨B1.os, B1.bare, ⟨fun b o q n hb hx => k3 b o (ne b o q).1 (ne b o q).2 (B1.un.keep b o q n hb hx), fun b o q n hb hx => ?_, B1.un.free, fun b o q hx => ?_, B1.un.tups, B1.un.frzs, B1.un.tbls⟩, fun b u q => ?_, B1.same⟩
        · obtain ⟨sl, hs⟩ := B1.un.slot b o q n hb hx
          exact ⟨sl, k3 b _ (ne b o q).1 (ne b o q).2 hs⟩
        · obtain ⟨o', hs⟩ := B1.un.there b o q hx
          exact ⟨o', k3 b _ (ne b o q).1 (ne b o q).2 hs⟩
        · have nit : ∀ b u, H1 b = some u → b ≠ a ∧ b ≠ kS := fun b u e => ⟨fun z => (by rw [z, n1] at e; cases e), fun z => (by rw [z, n2] at e; cases e)⟩
          refine (B1.hok b u q).stay (fun d v hd q2 => ?_) (fun _ q => q) fun _ _ q => q
          have : d ≠ a ∧ d ≠ kS := by
            rcases hd with z | z
            · rw [z]; exact nit b u q
            · exact nit d _ z
          exact k3 d v this.1 this.2 q2
      refine ⟨.ref a, upd H1 a (.lst (((xs.zip ks).mergeSort fun p q => decide (p.2 ≤ q.2)).map (·.1))), ?_, rfl, q H1 same0 a n1⟩
      refine I.call' (ch := []) (s' := { s' with heap := h3, toks := tk3 }) B3.os ⟨B3.un.keep, B3.un.slot, fun b o q n hx => ?_, B3.un.there, fun b ys q => ?_, fun b o' u q => ?_, fun b ys q => ?_⟩ (fun b u q => ?_) B3.bare (fun b z => absurd z (by simp))
      · have : b ≠ a := fun z => by rw [z, ha0] at q; cases q
        rw [upd_ne this]; exact B3.un.free b o q n hx
      · have h5 := B3.un.tups b ys q
        rw [upd_ne (fun z => by rw [z, n1] at h5; cases h5)]; exact h5
      · have h5 := B3.un.frzs b o' u q
        rw [upd_ne (fun z => by rw [z, n1] at h5; cases h5)]; exact h5
      · obtain ⟨more, h5⟩ := B3.un.tbls b ys q
        exact ⟨more, by rw [upd_ne (fun z => by rw [z, n1] at h5; cases h5)]; exact h5⟩
      · by_cases hb : b = a
        · subst hb
          rw [upd_same] at q
          cases q
          exact ⟨olen, _, c, hv, m3⟩
        · rw [upd_ne hb] at q
          exact (B3.hok b u q).stay (fun d v _ q2 => q2) (fun c2 q2 => by rw [upd_ne (fun z => by rw [z, n1] at q2; cases q2)]; exact q2) fun c2 o2 q2 => by rw [upd_ne (fun z => by rw [z, n1] at q2; cases q2)]; exact q2
/-- sorted(e, key=x), x a def -/
def tSortKey (sp : Sp) (K : PySem.W.Frag) (ta : TA) : TE := fun σ H Q => ta σ H fun vs H1 => rSortKey sp K vs H1 Q
end
section
variable {P : Program} {w : World} {K : PySem.W.Frag} {mg : Str → Option Value} {base : Heap} {X : Cx}
theorem pe_sortKeyO {k : Nat} {x : Str} {ps : List Str} {sp : Sp} {e : Expr} {ta : TA} {p p2 pos kpos : Pos} (O : Ok P w K mg base k x ps sp) (hP : X.prog = P) (hw : X.w = w) (hK : X.K = K) (hM : X.mg = mg) (hB : X.base = base) (hr : Room (k + 2) X.A) (hg : Gl X "sorted") (hm : mg "sorted" = none) (hgx : Gl X x) (ha : PA X [e] ta)
    (hdb : (x == ("__debug__" : Str)) = false := by decide)
    (he : backTo pos (starEach [e] X.env) = (false, eval e X.env) :: backTo pos (starEach [] X.env) := by rfl) (hpl : (backTo pos (starEach [e] X.env)).any (·.1) = false := by rfl)
    (hall : (backToKw pos (keywordEach [⟨some "key", .Name x p2, kpos⟩] X.env)).all (·.1.isSome) = true := by rfl) (hnone : (backToKw pos (keywordEach [⟨some "key", .Name x p2, kpos⟩] X.env)).any (·.1.isNone) = false := by rfl) (hks : (backToKw pos (keywordEach [⟨some "key", .Name x p2, kpos⟩] X.env)).filterMap (·.1) = [Str.ofString "key"] := by rfl) :
    PE X (.Call (.Name "sorted" p) [e] [⟨some "key", .Name x p2, kpos⟩] pos) (tSortKey sp K ta) := by
  subst hP hw hK hM hB
  refine ⟨fun pins s σ H Q I h => ?_⟩
  obtain ⟨f, fd, hf, hkp, hb, F⟩ := O
  have hk : PK X [⟨some "key", .Name x p2, kpos⟩] _ := pk_cons (pe_glob (v := .ref f) hgx hf rfl hdb) pk_nil
  refine wpAny_Call_Name_kw (ld_blt I hg hm (by decide +kernel : bootBuiltins "sorted" = some (.builtin "sorted")) ?_ (by decide) (by decide))
  refine PyProof.Rows.callWith_kw (thn (ha.run pos pins s σ H _ I h) fun us s1 ⟨vs, H1, I1, r1, q1⟩ => thn (hk.run pos pins s1 σ H1 (fun zs H2 => zs = [.ref f] ∧ H2 = H1) I1 ⟨rfl, rfl⟩) fun ws s2 ⟨zs, H2, I2, r2, q2⟩ => ?_) he hpl hall hnone
  rw [hks]
  obtain ⟨rfl, rfl⟩ := q2
  obtain ⟨w1, rfl, e1⟩ := vals1 r2
  obtain rfl : w1 = Value.ref f := e1
  exact sortKey_run rfl F hr hb I2 r1 q1
end
/-! ### a thing is locked for good -/
def tFrz (t : TE) : TE := fun σ H Q => t σ H fun x H1 => ∃ d u, x = .ref d ∧ H1 d = some u ∧ Mut (some u) ∧ ∀ od, Q x (upd H1 d (.frz od u))
theorem pe_frz {X : Cx} {e : Expr} {t : TE} (h : PE X e t) : PE X e (tFrz t) := by
  refine ⟨fun pins s σ H Q I hw => ?_⟩
  refine thn (h.run pins s σ H _ I hw) fun v s1 ⟨x, H1, I1, r, d, u, ex, hd, mu, q⟩ => ?_
  obtain ⟨od, I2⟩ := I1.lock hd mu
  exact ⟨x, _, I2, r, q od⟩
/-- behind it: what is locked stands in the base -/
def FrzK (Q : VK) : VK := fun x H1 => ∃ d u, x = .ref d ∧ H1 d = some u ∧ Mut (some u) ∧ ∀ od, Q x (upd H1 d (.frz od u))
section
variable {e : En} {B H H1 : Hp} {L : Led} {K : PySem.W.Frag} {Q : VK} {σ : L2.St} {te : TE} {d : Addr}
theorem y_frz (h : te σ H (FrzK Q)) : tFrz te σ H Q := h
theorem Sy.frzB {o : HO} {od : Obj} (S : Sy e B H L) (h : B d = some (.frz od o)) : H d = some (.frz od o) := by
  rcases S.bh d _ h with q | ⟨m, _⟩
  · exact q
  · exact m.elim
theorem y_frzK {kvs : List (Key × V)} (S : Sy e B H ((d, .dK kvs) :: L)) (hn : e.H d = none) (k : ∀ od B' H', Same B B' → B' d = some (.frz od (.dK kvs)) → Sy e B' H' L → Q (.ref d) H') : FrzK Q (.ref d) H := by
  refine ⟨d, .dK kvs, rfl, S.g0, trivial, fun od => ?_⟩
  obtain ⟨b, S2⟩ := (S.w0 (.frz od (.dK kvs))).freeze hn
  exact k od _ _ b upd_same S2
/-- all that stood stands -/
theorem Sy.grow (S : Sy e B H L) (h : Same H H1) : Sy e B H1 L := by
  refine ⟨S.b0, fun a o q => ?_, fun p hp => ?_, S.nd, fun a o h1 h2 q => h _ _ (S.keep a o h1 h2 q), S.fresh, fun a q => ?_, fun p hp => h _ _ (S.zin p hp), fun a o q hk => ?_, S.nt⟩
  · rcases S.bh a o q with z | ⟨z1, ob, z2⟩
    · exact .inl (h _ _ z)
    · exact .inr ⟨z1, ob, h _ _ z2⟩
  · obtain ⟨h1, h2, h3, h4⟩ := S.led p hp
    exact ⟨h _ _ h1, h2, h3, h4⟩
  · have := S.there a q
    cases z : H a with
    | none => exact absurd z this
    | some o => rw [h _ _ z]; simp
  · rcases S.lk a o q hk with z | z
    · exact .inl (h _ _ z)
    · exact .inr z
theorem zip_keys {α : Type} {F : V → α → Prop} (key : α → Int) : ∀ {xs : List V} {zs : List α}, Paired F xs zs → xs.zip (zs.map key) = (xs.zip zs).map fun p => (p.1, key p.2)
  | _, _, .nil => rfl
  | _, _, .cons r t => by
    rw [List.map_cons, List.zip_cons_cons, List.zip_cons_cons, List.map_cons, zip_keys key t]
theorem y_sortKey {α : Type} {φ : Ph} {c : Cod α} {a : Addr} {zs : List α} (key : α → Int) (S : Sy e B H L) (h : At (.list c) K B (.ref a) zs)
    (turn : ∀ x z, z ∈ zs → At c K B x z → ∀ k : Hp → V → Led → Prop, k B (.int (key z)) [] → φ B [x] [] k)
    (k : ∀ ys H1, Paired (At c K B) ys (zs.mergeSort fun z w => decide (key z ≤ key w)) → Sy e B H1 L → NewK (.lst ys) Q H1) : rSortKey (spY φ) K [.ref a] H Q := by
  obtain ⟨vs, h2, h3⟩ := at_list_ref h
  refine ⟨a, vs, zs.map key, rfl, S.l h2, by rw [List.length_map]; exact h3.length.symm, fun i x n hx hn H1 hs E => ?_, fun H1 hs => ?_⟩
  · rw [List.getElem?_map] at hn
    obtain ⟨z, hz, rfl⟩ := Option.map_eq_some_iff.mp hn
    obtain ⟨v, hv, hvz⟩ := pr_get h3 hz
    rw [hx] at hv
    cases hv
    have S1 := S.grow hs
    exact ⟨B, [], S1.hand0, turn x z (List.mem_of_getElem? hz) hvz _ fun H' T => ⟨rfl, fun a o q => T.keep a o (by simp) (by simp) q⟩⟩
  · have e1 : (((vs.zip (zs.map key)).mergeSort fun p q => decide (p.2 ≤ q.2)).map (·.1)) = ((vs.zip zs).mergeSort fun p q => decide (key p.2 ≤ key q.2)).map (·.1) := by
      rw [zip_keys key h3, ← List.map_mergeSort (r := fun p q : V × α => decide (key p.2 ≤ key q.2)) (f := fun p : V × α => (p.1, key p.2)) (fun _ _ _ _ => rfl), List.map_map]
      rfl
    rw [e1]
    exact k _ H1 (pr_sort (le := fun z w => decide (key z ≤ key w)) h3) (S.grow hs)
end
end Y
/-! Dealings as they are told for ties. -/
namespace Y
open PySem PySem.Spec PyProof.Rows L2
structure Dl where
  num : Int
  stand : Int
  place : Int
  reads : List Str
  ranges : List (Str × Str)
  writes : List Str
deriving DecidableEq
abbrev cS : Cod (List Str) := .list .str
abbrev cR : Cod (List (Str × Str)) := .list (.tup2 .str .str)
def rowC : Cod Dl := ⟨fun r => .tuple [.int r.num, .int r.stand, .int r.place, cS.enc r.reads, cR.enc r.ranges, cS.enc r.writes], 5, fun r => by
    simp only [PyData.plain, PyData.plainAll, cS.pl, cR.pl, Bool.and_true], fun r => by
    have h1 := cS.dp r.reads
    have h2 := cR.dp r.ranges
    have h3 := cS.dp r.writes
    have e1 : cS.dep = 2 := rfl
    have e2 : cR.dep = 3 := rfl
    simp only [PyData.depth, PyData.depthAll]
    omega, fun r s => by
    obtain ⟨a, b, c, d, f, g⟩ := r
    obtain ⟨a', b', c', d', f', g'⟩ := s
    simp only [PyData.eqv, PyData.eqvAll, Bool.and_eq_true, cS.eq, cR.eq, Dl.mk.injEq, beq_iff_eq, and_true]⟩
section
variable {K : PySem.W.Frag} {B : Hp} {v : V} {r : Dl}
theorem dp_listv {α : Type} {c : Cod α} {zs : List α} (h : Dp K B v ((Cod.list c).enc zs)) : ∃ a, v = .ref a ∧ At (.list c) K B (.ref a) zs := by
  have h2 : Dp K B v (.list (zs.map c.enc)) := h
  cases h2 with
  | lst h3 h4 => exact ⟨_, rfl, .lst h3 h4⟩
theorem at_row (h : At rowC K B v r) : ∃ a a4 a5 a6, v = .ref a ∧ SqT K B a [.int r.num, .int r.stand, .int r.place, .ref a4, .ref a5, .ref a6] ∧ At cS K B (.ref a4) r.reads ∧ At cR K B (.ref a5) r.ranges ∧ At cS K B (.ref a6) r.writes := by
  have h2 : Dp K B v (.tuple [.int r.num, .int r.stand, .int r.place, cS.enc r.reads, cR.enc r.ranges, cS.enc r.writes]) := h
  cases h2 with
  | tup h3 h4 =>
    cases h4 with
    | cons d1 h4 => cases h4 with
      | cons d2 h4 => cases h4 with
        | cons d3 h4 => cases h4 with
          | cons d4 h4 => cases h4 with
            | cons d5 h4 => cases h4 with
              | cons d6 h4 =>
                cases h4
                cases d1
                cases d2
                cases d3
                obtain ⟨a4, rfl, q4⟩ := dp_listv d4
                obtain ⟨a5, rfl, q5⟩ := dp_listv d5
                obtain ⟨a6, rfl, q6⟩ := dp_listv d6
                exact ⟨_, a4, a5, a6, rfl, h3, q4, q5, q6⟩
theorem At.row {a : Addr} {v4 v5 v6 : V} (h : SqT K B a [.int r.num, .int r.stand, .int r.place, v4, v5, v6]) (h4 : At cS K B v4 r.reads) (h5 : At cR K B v5 r.ranges) (h6 : At cS K B v6 r.writes) : At rowC K B (.ref a) r :=
  .tup h (.cons (.int _) (.cons (.int _) (.cons (.int _) (.cons h4 (.cons h5 (.cons h6 .nil))))))
end
/-! ### rules -/
section
variable {X : Cx} {K : PySem.W.Frag} {e : En} {B H : Hp} {L : Led} {Q : VK} {σ : L2.St} {te td ty tx : TE} {a b d p : Addr} {xs ys : List V} {v y : V}
theorem sl_tupK (hK : X.K = K) : SlR X (rSlT K) := hK ▸ sl_tup
theorem y_slT {lo hi : Option Int} (h : SqT K H a xs) (hc : ¬ (HT.sIx xs.length 0 lo = 0 ∧ HT.sIx xs.length xs.length hi = xs.length)) (q : NewK (.tup (cutV xs lo hi)) Q H) : rSlT K (.ref a) lo hi H Q := ⟨a, xs, rfl, h, hc, q⟩
theorem y_catT (h1 : SqT K H a xs) (h2 : SqT K H b ys) (n1 : xs ≠ []) (n2 : ys ≠ []) (hl : xs.length + ys.length ≤ sizeLine) (q : NewK (.tup (xs ++ ys)) Q H) : rAddU K (.ref a) (.ref b) H Q :=
  .inr (.inr (.inr ⟨a, b, xs, ys, rfl, rfl, h1, h2, n1, hl, fun z => absurd z n2, fun _ => q⟩))
/-- xs.insert(i, y) -/
def rIns : V → List V → Hp → VK → Prop := fun x vs H Q => ∃ (l : Addr) (xs : List V) (i : Int) (y : V), x = .ref l ∧ vs = [.int i, y] ∧ H l = some (.lst xs) ∧ xs.length < sizeLine ∧ 0 ≤ i ∧ i < 2 ^ 63 ∧ Q .non (upd H l (.lst (xs.take i.toNat ++ [y] ++ xs.drop i.toNat)))
theorem mt_insertU : MtR X "list.insert" rIns := mt_insert
theorem y_ins (n : Nat) {i : Int} (S : Sy e B H L) (h : L[n]? = some (a, .lst xs)) (hl : xs.length < sizeLine) (h0 : 0 ≤ i) (h1 : i < 2 ^ 63) (k : ∀ H', Sy e B H' (L.set n (a, .lst (xs.take i.toNat ++ [y] ++ xs.drop i.toNat))) → Q .non H') : rIns (.ref a) [.int i, y] H Q :=
  ⟨a, xs, i, y, rfl, rfl, S.at n h, hl, h0, h1, k _ (S.wr n h _)⟩
/-- a, b = x, y -/
def ParK (i j : Nat) (nx : L2.St → Hp → Prop) (σ : L2.St) : List V → Hp → Prop := fun vs H1 => ∃ v w, vs = [v, w] ∧ nx ((σ.set i (some v)).set j (some w)) H1
theorem y_par {i j : Nat} {ta : TA} {nx bk ct : L2.St → Hp → Prop} {rt : VK} (h : ta σ H (ParK i j nx σ)) : tPar i j ta ⟨nx, rt, bk, ct⟩ σ H := h
theorem y_parK {i j : Nat} {nx : L2.St → Hp → Prop} {v w : V} (h : nx ((σ.set i (some v)).set j (some w)) H) : ParK i j nx σ [v, w] H := ⟨v, w, rfl, h⟩
def Par3K (i j l : Nat) (nx : L2.St → Hp → Prop) (σ : L2.St) : List V → Hp → Prop := fun vs H1 => ∃ u v w, vs = [u, v, w] ∧ nx (((σ.set i (some u)).set j (some v)).set l (some w)) H1
theorem y_par3 {i j l : Nat} {ta : TA} {nx bk ct : L2.St → Hp → Prop} {rt : VK} (h : ta σ H (Par3K i j l nx σ)) : tPar3 i j l ta ⟨nx, rt, bk, ct⟩ σ H := h
theorem y_par3K {i j l : Nat} {nx : L2.St → Hp → Prop} {u v w : V} (h : nx (((σ.set i (some u)).set j (some v)).set l (some w)) H) : Par3K i j l nx σ [u, v, w] H := ⟨u, v, w, rfl, h⟩
theorem y_sortk {sp : Sp} {ta : TA} (h : ta σ H fun vs H1 => rSortKey sp K vs H1 Q) : tSortKey sp K ta σ H Q := h
theorem y_dnewT (h : NewK (.dT []) Q H) : tDNewT σ H Q := h
/-- d.setdefault(y, z) -/
def SetdK (ty tx : TE) (σ : L2.St) (Q : VK) : VK := fun x H1 => ∃ a, x = .ref a ∧ IsD H1 a ∧ ty σ H1 fun y H2 => tx σ H2 fun z H3 => ∃ (kvs : List (Key × V)) (k : Key), H3 a = some (.dK kvs) ∧ y = kV k ∧ kvs.length < sizeLine ∧
  (∀ v, valV kvs k = some v → Q v H3) ∧ (valV kvs k = none → Q z (upd H3 a (.dK (putK kvs k z))))
theorem y_setd (h : td σ H (SetdK ty tx σ Q)) : tDSetd td ty tx σ H Q := h
theorem y_setdK (n : Nat) {kvs : List (Key × V)} (S : Sy e B H L) (h : L[n]? = some (d, .dK kvs)) (q : ty σ H fun y H2 => tx σ H2 fun z H3 => ∃ (kvs : List (Key × V)) (k : Key), H3 d = some (.dK kvs) ∧ y = kV k ∧ kvs.length < sizeLine ∧
  (∀ v, valV kvs k = some v → Q v H3) ∧ (valV kvs k = none → Q z (upd H3 d (.dK (putK kvs k z))))) : SetdK ty tx σ Q (.ref d) H := ⟨d, rfl, .inl ⟨kvs, .inl (S.at n h)⟩, q⟩
/-- d[(a, b)] = v -/
theorem y_setT {N : Hp → Prop} (n : Nat) {kvs : List (List Key × V)} {i j : Int} (S : Sy e B H L) (h : L[n]? = some (d, .dT kvs)) (hb : H b = some (.tup [.int i, .int j])) (hl : kvs.length < sizeLine) (k : ∀ H', Sy e B H' (L.set n (d, .dT (putK kvs [.inl i, .inl j] v))) → N H') : rSetU (.ref d) (.ref b) v H N :=
  .inr ⟨d, _, rfl, .inr ⟨kvs, [.inl i, .inl j], b, S.at n h, rfl, hb, hl, rfl⟩, k _ (S.wr n h _)⟩
/-- all of a part of the ledger changes no more -/
theorem Sy.frzAll : ∀ {N L : Led} {B : Hp}, Sy e B H (N ++ L) → (∀ p ∈ N, e.H p.1 = Option.none) → ∃ B', Same B B' ∧ (∀ p ∈ N, B' p.1 = some p.2) ∧ Sy e B' H L
  | [], L, B, S, _ => ⟨B, Same.refl _, fun p hp => (by cases hp), S⟩
  | (a, o) :: N, L, B, S, hn => by
    obtain ⟨b1, S1⟩ := Sy.freeze S (hn _ List.mem_cons_self)
    obtain ⟨B2, b2, h2, S2⟩ := Sy.frzAll S1 fun p hp => hn p (List.mem_cons_of_mem _ hp)
    refine ⟨B2, b1.trans b2, fun p hp => ?_, S2⟩
    rcases List.mem_cons.mp hp with rfl | hp
    · exact b2 _ _ upd_same
    · exact h2 p hp
/-- pairs that stand are taken into the base -/
theorem Sy.adoptAll {L : Led} : ∀ {bs : List (V × (Int × Int))} {B : Hp}, Sy e B H L → (∀ b ∈ bs, ∃ t, b.1 = .ref t ∧ H t = some (.tup [.int b.2.1, .int b.2.2])) → ∃ B', Same B B' ∧ (∀ b ∈ bs, PairAt B' b.1 b.2) ∧ Sy e B' H L
  | [], B, S, _ => ⟨B, Same.refl _, fun b hb => (by cases hb), S⟩
  | b :: bs, B, S, h => by
    obtain ⟨t, e1, ht⟩ := h b List.mem_cons_self
    obtain ⟨B1, b1, h1, S1⟩ := S.adopt ht
    obtain ⟨B2, b2, h2, S2⟩ := Sy.adoptAll S1 fun c hc => h c (List.mem_cons_of_mem _ hc)
    refine ⟨B2, b1.trans b2, fun c hc => ?_, S2⟩
    rcases List.mem_cons.mp hc with rfl | hc
    · exact ⟨t, e1, b2 _ _ h1⟩
    · exact h2 c hc
end
/-! ### a table with pairs as keys, its values all True -/
def tieKV (p : Int × Int) : List Key × V := ([.inl p.1, .inl p.2], .bl true)
theorem valT {ps : List (Int × Int)} {i j : Int} : valV (ps.map tieKV) [.inl i, .inl j] = if (i, j) ∈ ps then some (.bl true) else none := by
  induction ps with
  | nil => rfl
  | cons p ps ih =>
    rw [List.map_cons]
    by_cases h : p = (i, j)
    · subst h
      rw [valV_pos (show (tieKV (i, j)).1 = [.inl i, .inl j] from rfl), if_pos List.mem_cons_self]
      rfl
    · have hk : ¬ (tieKV p).1 = [.inl i, .inl j] := fun z => h (by
        have z : ([.inl p.1, .inl p.2] : List Key) = [.inl i, .inl j] := z
        injection z with z1 z2
        injection z2 with z2 _
        exact Prod.ext (Sum.inl.inj z1) (Sum.inl.inj z2))
      rw [valV_neg hk, ih]
      by_cases c : (i, j) ∈ ps
      · rw [if_pos c, if_pos (List.mem_cons_of_mem _ c)]
      · rw [if_neg c, if_neg (fun z => (List.mem_cons.mp z).elim (fun e => h e.symm) c)]
def addT (ps : List (Int × Int)) (p : Int × Int) : List (Int × Int) := if p ∈ ps then ps else ps ++ [p]
theorem addT_mem {ps : List (Int × Int)} {p x : Int × Int} : x ∈ addT ps p ↔ x ∈ ps ∨ x = p := by
  unfold addT
  split
  · exact ⟨.inl, fun z => z.elim id fun e => by rw [e]; assumption⟩
  · rw [List.mem_append, List.mem_singleton]
theorem addT_nodup {ps : List (Int × Int)} {p : Int × Int} (h : ps.Nodup) : (addT ps p).Nodup := by
  unfold addT
  split
  · exact h
  · next c =>
    refine List.nodup_append.mpr ⟨h, by simp, fun x hx y hy hxy => ?_⟩
    rw [List.mem_singleton] at hy
    rw [hxy, hy] at hx
    exact c hx
theorem addT_len {ps : List (Int × Int)} {p : Int × Int} : (addT ps p).length ≤ ps.length + 1 := by
  unfold addT
  split
  · omega
  · simp
theorem putT_same {ps : List (Int × Int)} {i j : Int} (h : (i, j) ∈ ps) : putK (ps.map tieKV) [.inl i, .inl j] (.bl true) = ps.map tieKV := by
  unfold putK
  rw [if_pos (by rw [valV_any, valT, if_pos h]; rfl), List.map_map]
  apply List.map_congr_left
  intro p _
  show (if (tieKV p).1 = _ then _ else _) = _
  split
  · rfl
  · rfl
theorem putT {ps : List (Int × Int)} {i j : Int} : putK (ps.map tieKV) [.inl i, .inl j] (.bl true) = (addT ps (i, j)).map tieKV := by
  unfold addT
  by_cases h : (i, j) ∈ ps
  · rw [if_pos h, putT_same h]
  · rw [if_neg h, putK_new _ (by rw [valT, if_neg h]), List.map_append]
    rfl
/-! ### sorted(..) of sets, too -/
def rSortW (P : Program) (w : World) (K : PySem.W.Frag) : List V → Hp → VK → Prop := fun xs H Q => rSortZ K xs H Q ∨ rSortM P w xs H Q
section
variable {X : Cx} {K : PySem.W.Frag} {P : Program} {w : World}
theorem call_sortedW (hP : X.prog = P) (hw : X.w = w) (hK : X.K = K) (hc : X.calm = true) (hu : X.A.units + 64 < cLine) : CallR X (.builtin "sorted") (rSortW P w K) := CallR.or (call_sortedZ hK hc hu) (cr_sortM hP hw hc hu)
end
section
variable {P : Program} {w : World} {K : PySem.W.Frag} {e : En} {B H : Hp} {L : Led} {Q : VK} {a d : Addr}
/-- texts go by their signs -/
def strLe (x y : Str) : Bool := !decide (sg y < sg x)
theorem leD_str (x y : Str) : leD (.str x) (.str y) = strLe x y := by
  unfold leD strLe
  rw [PySem.W.dataLt_str]
/-- sorted(xs) of texts -/
theorem y_sortStr {zs : List Str} (h : SqL K H a (zs.map V.str)) (q : NewK (.lst ((zs.mergeSort strLe).map V.str)) Q H) : rSortW P w K [.ref a] H Q := by
  refine .inl (.inr (.inl ⟨Str, PyData.str, a, zs.map V.str, zs, rfl, h, ?_, ?_, ?_, ?_, ?_⟩))
  · clear h q
    induction zs with
    | nil => exact .nil
    | cons z zs ih => exact .cons (.str z) ih
  · intro d hd d' hd'
    obtain ⟨x, _, rfl⟩ := List.mem_map.mp hd
    obtain ⟨y, _, rfl⟩ := List.mem_map.mp hd'
    simp [PySem.W.alike]
  · exact .inr fun d hd => by
      obtain ⟨x, _, rfl⟩ := List.mem_map.mp hd
      exact ⟨(fun z => by cases z), (fun _ z => by cases z)⟩
  · intro z _
    simp [PyData.depth]
  · have e1 : (((zs.map V.str).zip zs).mergeSort fun p q => leD (PyData.str p.2) (PyData.str q.2)).map (·.1) = (zs.mergeSort strLe).map V.str := by
      have e2 : (zs.map V.str).zip zs = zs.map fun z => (V.str z, z) := by
        clear h q
        induction zs with
        | nil => rfl
        | cons z zs ih => rw [List.map_cons, List.zip_cons_cons, ih]; rfl
      rw [e2, ← List.map_mergeSort (r := fun x y : Str => leD (PyData.str x) (PyData.str y)) (f := fun z : Str => (V.str z, z)) (fun _ _ _ _ => rfl), List.map_map]
      have e3 : (fun x y : Str => leD (PyData.str x) (PyData.str y)) = strLe := by
        funext x y
        exact leD_str x y
      rw [e3]
      rfl
    rw [e1]
    exact q
/-- sorted(set(xs)) of texts: each once -/
theorem y_setStr {zs : List Str} (h : SqL K H a (zs.map V.str)) (hl : zs.length + 1 < scanBound) (q : ∀ p, H p = none → Q (.ref p) (upd H p (setO P w p (firstK (zs.map .inr))))) : rSetM P w K [.ref a] H Q := by
  refine ⟨a, zs.map .inr, rfl, ?_, by rw [List.length_map]; exact hl, q⟩
  rw [List.map_map]
  exact h
theorem inr_of {kl : List Key} {zs : List Str} (h : ∀ k ∈ kl, k ∈ zs.map (Sum.inr : Str → Key)) : ∃ ys : List Str, kl = ys.map Sum.inr := by
  induction kl with
  | nil => exact ⟨[], rfl⟩
  | cons k kl ih =>
    obtain ⟨y, _, rfl⟩ := List.mem_map.mp (h k List.mem_cons_self)
    obtain ⟨ys, rfl⟩ := ih fun j hj => h j (List.mem_cons_of_mem _ hj)
    exact ⟨y :: ys, rfl⟩
theorem y_sortSet {zs : List Str} (h : H d = some (setO P w d (firstK (zs.map .inr)))) (q : ∀ ys : List Str, ys.Nodup → (∀ z, z ∈ ys ↔ z ∈ zs) → ys.Pairwise (fun x y => strLe x y = true) → NewK (.lst (ys.map V.str)) Q H) : rSortW P w K [.ref d] H Q := by
  refine .inr ⟨d, _, rfl, h, ?_, fun kl hp => ?_⟩
  · intro x hx y hy
    obtain ⟨k, hk, rfl⟩ := List.mem_map.mp hx
    obtain ⟨j, hj, rfl⟩ := List.mem_map.mp hy
    obtain ⟨z, _, rfl⟩ := List.mem_map.mp (firstK_mem.mp hk)
    obtain ⟨z', _, rfl⟩ := List.mem_map.mp (firstK_mem.mp hj)
    simp [keyD, PySem.W.alike]
  · obtain ⟨ys, rfl⟩ := inr_of (kl := kl) (zs := zs) fun k hk => firstK_mem.mp (hp.mem_iff.mp hk)
    have e1 : ((ys.map Sum.inr : List Key).mergeSort fun k l => leD (keyD k) (keyD l)).map kV = (ys.mergeSort strLe).map V.str := by
      rw [← List.map_mergeSort (r := strLe) (f := fun z : Str => (Sum.inr z : Key)) (fun x _ y _ => (leD_str x y).symm), List.map_map]
      rfl
    rw [e1]
    have nd : ys.Nodup := by
      have h1 : (ys.map Sum.inr : List Key).Nodup := hp.nodup_iff.mpr firstK_nodup
      exact (List.pairwise_map.mp h1).imp fun hne z => hne (by rw [z])
    have pm := List.mergeSort_perm ys strLe
    refine q _ (pm.nodup_iff.mpr nd) (fun z => ?_) (List.pairwise_mergeSort (le := strLe) (fun x y z h1 h2 => ?_) (fun x y => ?_) ys)
    · rw [pm.mem_iff]
      constructor
      · intro hz
        have : (Sum.inr z : Key) ∈ firstK (zs.map .inr) := hp.mem_iff.mp (List.mem_map.mpr ⟨z, hz, rfl⟩)
        obtain ⟨z', h1, h2⟩ := List.mem_map.mp (firstK_mem.mp this)
        cases h2
        exact h1
      · intro hz
        have : (Sum.inr z : Key) ∈ ys.map Sum.inr := hp.mem_iff.mpr (firstK_mem.mpr (List.mem_map.mpr ⟨z, hz, rfl⟩))
        obtain ⟨z', h1, h2⟩ := List.mem_map.mp this
        cases h2
        exact h1
    · unfold strLe at *
      simp only [Bool.not_eq_true', decide_eq_false_iff_not, List.not_lt] at *
      exact List.le_trans h1 h2
    · unfold strLe
      simp only [Bool.or_eq_true, Bool.not_eq_true', decide_eq_false_iff_not, List.not_lt]
      exact List.le_total _ _
end
/-! ### dealings as drawn -/
structure DealOk (zs : List Str) (r : Dl) : Prop where
  n0 : 1 ≤ r.num
  n1 : r.num ≤ 100000000000000000000
  s0 : 0 ≤ r.stand
  s1 : r.stand < r.place
  p1 : r.place ≤ 1000000000000000000
  rd : ∀ y ∈ r.reads, y ∈ zs
  wr : ∀ y ∈ r.writes, y ∈ zs
  rl : r.reads.length ≤ 22
  wl : r.writes.length ≤ 22
  gl : r.ranges.length ≤ 2
structure DealsOk (zs : List Str) (rows : List Dl) : Prop where
  each : ∀ r ∈ rows, DealOk zs r
  nn : (rows.map (·.num)).Nodup
  np : (rows.map (·.place)).Nodup
  len : rows.length ≤ 100
theorem inv409 : ∀ s : Fin 408, ((s.val + 1) ^ 407 % 409 * (s.val + 1)) % 409 = 1 := by decide +kernel
theorem num_inj {first step great : Int} {i j : Nat} (h0 : 1 ≤ step) (h1 : step ≤ 408) (hg : 0 < great) (hi : i < 409) (hj : j < 409) (h : ((first + i * step) % 409 + 1) * great = ((first + j * step) % 409 + 1) * great) : i = j := by
  have h2 : (first + i * step) % 409 = (first + j * step) % 409 := by
    have := Int.eq_of_mul_eq_mul_right (Int.ne_of_gt hg) h
    omega
  have hd : (409 : Int) ∣ ((i : Int) - j) * step := by
    have h3 : (first + i * step) - (first + j * step) = ((i : Int) - j) * step := by rw [Int.sub_mul]; omega
    rw [← h3]
    exact Int.dvd_of_emod_eq_zero (by omega)
  obtain ⟨c, hc⟩ := hd
  have hs := inv409 ⟨step.toNat - 1, by omega⟩
  have e1 : step.toNat - 1 + 1 = step.toNat := by omega
  simp only [e1] at hs
  generalize step.toNat ^ 407 % 409 = t at hs
  have ht : ((t * step.toNat : Nat) : Int) = 1 + 409 * ((t * step.toNat / 409 : Nat) : Int) := by omega
  have ht2 : (t : Int) * step = 1 + 409 * ((t * step.toNat / 409 : Nat) : Int) := by
    rw [← ht]
    push_cast
    rw [Int.toNat_of_nonneg (by omega)]
  generalize ((t * step.toNat / 409 : Nat) : Int) = m at ht2
  have h4 : ((i : Int) - j) * (t * step) = 409 * (c * t) := by
    calc ((i : Int) - j) * (t * step) = (((i : Int) - j) * step) * t := by rw [Int.mul_comm (t : Int) step, Int.mul_assoc]
      _ = 409 * (c * t) := by rw [hc, Int.mul_assoc]
  rw [ht2, Int.mul_add, Int.mul_one] at h4
  have h5 : ((i : Int) - j) * (409 * m) = 409 * (((i : Int) - j) * m) := by rw [← Int.mul_assoc, Int.mul_comm ((i : Int) - j) 409, Int.mul_assoc]
  rw [h5] at h4
  generalize ((i : Int) - j) * m = u at h4
  generalize c * (t : Int) = v at h4
  omega
theorem pr_take {α β : Type} {F : α → β → Prop} : ∀ {l : List α} {m : List β} (n : Nat), Paired F l m → Paired F (l.take n) (m.take n)
  | _, _, 0, _ => by rw [List.take_zero, List.take_zero]; exact .nil
  | _, _, _ + 1, .nil => .nil
  | _, _, n + 1, .cons r t => .cons r (pr_take n t)
theorem pr_drop {α β : Type} {F : α → β → Prop} : ∀ {l : List α} {m : List β} (n : Nat), Paired F l m → Paired F (l.drop n) (m.drop n)
  | _, _, 0, h => h
  | _, _, _ + 1, .nil => .nil
  | _, _, n + 1, .cons _ t => pr_drop n t
theorem perm_ins {α : Type} (l : List α) (n : Nat) (x : α) : (l.take n ++ [x] ++ l.drop n).Perm (x :: l) := by
  have h : (l.take n ++ x :: l.drop n).Perm (x :: (l.take n ++ l.drop n)) := List.perm_middle
  rw [List.take_append_drop] at h
  rw [List.append_assoc]
  exact h
end Y
/-! Ties in plain words. -/
namespace Y
open PySem PySem.Spec PyProof.Rows L2
/-! ### pairs in their order -/
def leT (x y : Int × Int) : Bool := leD (.tuple [.int x.1, .int x.2]) (.tuple [.int y.1, .int y.2])
theorem leT_iff {x y : Int × Int} : leT x y = true ↔ x.1 < y.1 ∨ (x.1 = y.1 ∧ x.2 ≤ y.2) := by
  unfold leT leD
  have h : PySem.W.dataLt (.tuple [.int y.1, .int y.2]) (.tuple [.int x.1, .int x.2]) = if y.1 = x.1 then decide (y.2 < x.2) else decide (y.1 < x.1) := PySem.W.DatumOrd.lt_eq y x
  rw [h]
  by_cases c : y.1 = x.1
  · rw [if_pos c]
    simp
    omega
  · rw [if_neg c]
    simp
    omega
theorem leT_trans (x y z : Int × Int) (h1 : leT x y = true) (h2 : leT y z = true) : leT x z = true := by
  rw [leT_iff] at *
  omega
theorem leT_total (x y : Int × Int) : (leT x y || leT y x) = true := by
  rw [Bool.or_eq_true, leT_iff, leT_iff]
  omega
theorem leT_anti {x y : Int × Int} (h1 : leT x y = true) (h2 : leT y x = true) : x = y := by
  rw [leT_iff] at *
  apply Prod.ext <;> omega
/-- sorted, with the same members, each once: the same -/
theorem sorted_eq {α : Type} {le : α → α → Bool} (anti : ∀ x y, le x y = true → le y x = true → x = y) : ∀ {l m : List α}, l.Pairwise (fun x y => le x y = true) → m.Pairwise (fun x y => le x y = true) → l.Perm m → l = m := by
  intro l m h1 h2 p
  exact p.eq_of_pairwise (fun a b _ _ h3 h4 => anti a b h3 h4) h1 h2
theorem sortT_eq {l m : List (Int × Int)} (h1 : l.Nodup) (h2 : m.Nodup) (h : ∀ x, x ∈ l ↔ x ∈ m) : l.mergeSort leT = m.mergeSort leT := by
  have p : l.Perm m := (List.perm_ext_iff_of_nodup h1 h2).mpr h
  exact sorted_eq (le := leT) (fun x y => leT_anti) (List.pairwise_mergeSort leT_trans leT_total l) (List.pairwise_mergeSort leT_trans leT_total m) ((List.mergeSort_perm l leT).trans (p.trans (List.mergeSort_perm m leT).symm))
/-! ### the program's ties -/
def asksB (r : Dl) (key : Str) : Bool := decide (key ∈ r.reads) || r.ranges.any fun p => !decide (sg key < sg p.1) && decide (sg key < sg p.2)
/-- by their places -/
def byPlace (rows : List Dl) : List Dl := rows.mergeSort fun z w => decide (z.place ≤ w.place)
/-- who writes a key, by places -/
def lineOf (rows : List Dl) (key : Str) : List Dl := (byPlace rows).filter fun r => decide (key ∈ r.writes)
def aheadN (r : Dl) (ds : List Dl) : List Int := (ds.filter fun o => decide (o.place ≤ r.stand)).map (·.num)
def behindN (r : Dl) (ds : List Dl) : List Int := (ds.filter fun o => decide (r.stand < o.place) && !decide (o.num = r.num)).map (·.num)
def readT (r : Dl) (ds : List Dl) : List (Int × Int) := ((aheadN r ds).getLast?.toList.map fun a => (a, r.num)) ++ ((behindN r ds).head?.toList.map fun b => (r.num, b))
/-- a tie by a key and its line -/
def TieK (rows : List Dl) (ds : List Dl) (key : Str) (x : Int × Int) : Prop := x ∈ (ds.zip (ds.drop 1)).map (fun q => (q.1.num, q.2.num)) ∨ ∃ r ∈ rows, asksB r key = true ∧ x ∈ readT r ds
def TieP (rows : List Dl) (x : Int × Int) : Prop := ∃ key, TieK rows (lineOf rows key) key x
theorem tieK_nil {rows : List Dl} {key : Str} {x : Int × Int} : ¬ TieK rows [] key x := by
  rintro (h | ⟨r, _, _, h⟩)
  · simp at h
  · simp [readT, aheadN, behindN] at h
structure TiesOk (rows : List Dl) (ts : List (Int × Int)) : Prop where
  nd : ts.Nodup
  st : ts.Pairwise fun x y => leT x y = true
  mem : ∀ x, x ∈ ts ↔ TieP rows x
theorem TiesOk.uniq {rows : List Dl} {ts us : List (Int × Int)} (h : TiesOk rows ts) (g : TiesOk rows us) : ts = us :=
  sorted_eq (le := leT) (fun x y => leT_anti) h.st g.st ((List.perm_ext_iff_of_nodup h.nd g.nd).mpr fun x => (h.mem x).trans (g.mem x).symm)
theorem TiesOk.of {rows : List Dl} {ps : List (Int × Int)} (nd : ps.Nodup) (mem : ∀ x, x ∈ ps ↔ TieP rows x) : TiesOk rows (ps.mergeSort leT) :=
  ⟨(List.mergeSort_perm ps leT).nodup_iff.mpr nd, List.pairwise_mergeSort leT_trans leT_total ps, fun x => (List.mergeSort_perm ps leT).mem_iff.trans (mem x)⟩
theorem cut1 (xs : List V) : cutV xs (some 1) none = xs.drop 1 := by
  unfold cutV
  have e1 : HT.sIx xs.length 0 (some 1) = min 1 xs.length := HT.sIx_nat _ _ 1
  have e2 : HT.sIx xs.length xs.length none = xs.length := rfl
  rw [e1, e2]
  cases xs with
  | nil => rfl
  | cons x xs =>
    rw [show min 1 (x :: xs).length = 1 by rw [List.length_cons]; omega]
    exact List.take_of_length_le (by simp)
section
variable {K : PySem.W.Frag} {e : En} {B H : Hp} {L : Led} {Q : VK} {α : Type} {a : Addr} {y : V} {vs : List V} {zs ws : List α}
/-- != of a list of the ledger and one of the base -/
theorem y_neL [DecidableEq α] (c : Cod α) (S : Sy e B H L) (hx : H a = some (.lst vs)) (hp : Paired (At c K B) vs zs) (h2 : At (.list c) K B y ws) (hd : c.dep ≤ 49) (q : Q (.bl (!decide (zs = ws))) H) : rNeZ K (.ref a) y H Q := by
  refine .inr ⟨(Cod.list c).enc zs, (Cod.list c).enc ws, .lst (sqL hx) (Sub.ds S.bh (dpAll_of hp)), S.d h2, (Cod.list c).Pl zs (by show c.dep + 1 ≤ 50; omega), (Cod.list c).Pl ws (by show c.dep + 1 ≤ 50; omega), ?_⟩
  rw [Cod.dec]
  exact q
theorem PairAt.at {p : Int × Int} {v : V} (h : PairAt B v p) : At (.tup2 .int .int) K B v p := by
  obtain ⟨t, rfl, h⟩ := h
  exact .tup2 (sqT h) .int .int
theorem pr_pairs {ps : List (Int × Int)} : ∀ {vs : List V}, Paired (PairAt B) vs ps → Paired (At (.tup2 .int .int) K B) vs ps := fun h => Paired.mapP h fun _ _ q => q.at
end
end Y
/-! The law's ties are the program's, in plain words. -/
namespace Y
open PySem PySem.Spec PyProof.Rows L2
section
variable {α : Type} {p : α → Int}
theorem zip_next : ∀ {l : List α}, l.Pairwise (fun x y => p x < p y) → ∀ {x y : α}, ((x, y) ∈ l.zip (l.drop 1) ↔ x ∈ l ∧ y ∈ l ∧ p x < p y ∧ ∀ z ∈ l, ¬ (p x < p z ∧ p z < p y))
  | [], _, x, y => by simp
  | [a], _, x, y => by
    simp only [List.drop_succ_cons, List.drop_zero, List.zip_nil_right, List.not_mem_nil, List.mem_singleton, false_iff]
    rintro ⟨rfl, rfl, h, _⟩
    omega
  | a :: b :: l, h, x, y => by
    obtain ⟨h1, h2⟩ := List.pairwise_cons.mp h
    have ih := zip_next h2 (x := x) (y := y)
    have e1 : (a :: b :: l).zip ((a :: b :: l).drop 1) = (a, b) :: (b :: l).zip ((b :: l).drop 1) := rfl
    rw [e1, List.mem_cons, ih]
    have hab : p a < p b := h1 b List.mem_cons_self
    constructor
    · rintro (e | ⟨hx, hy, hxy, hz⟩)
      · injection e with e2 e3
        subst e2 e3
        refine ⟨List.mem_cons_self, List.mem_cons_of_mem _ List.mem_cons_self, hab, fun z hz => ?_⟩
        rcases List.mem_cons.mp hz with rfl | hz
        · omega
        · rcases List.mem_cons.mp hz with rfl | hz
          · omega
          · have := (List.pairwise_cons.mp h2).1 z hz
            omega
      · refine ⟨List.mem_cons_of_mem _ hx, List.mem_cons_of_mem _ hy, hxy, fun z hz2 => ?_⟩
        rcases List.mem_cons.mp hz2 with rfl | hz2
        · have := h1 x hx
          omega
        · exact hz z hz2
    · rintro ⟨hx, hy, hxy, hz⟩
      rcases List.mem_cons.mp hx with e2 | hx2
      · subst e2
        refine .inl ?_
        rcases List.mem_cons.mp hy with e3 | hy
        · subst e3; omega
        · rcases List.mem_cons.mp hy with e3 | hy
          · rw [e3]
          · have h4 := (List.pairwise_cons.mp h2).1 y hy
            exact absurd ⟨hab, h4⟩ (hz b (List.mem_cons_of_mem _ List.mem_cons_self))
      · refine .inr ⟨hx2, ?_, hxy, fun z hz2 => hz z (List.mem_cons_of_mem _ hz2)⟩
        rcases List.mem_cons.mp hy with e3 | hy
        · have := h1 x hx2
          rw [e3] at hxy
          omega
        · exact hy
theorem last_max : ∀ {l : List α}, l.Pairwise (fun x y => p x < p y) → ∀ {x : α}, (l.getLast? = some x ↔ x ∈ l ∧ ∀ z ∈ l, p z ≤ p x)
  | l, h, x => by
    rcases snoc_cases l with rfl | ⟨m, y, rfl⟩
    · simp
    · rw [List.getLast?_concat]
      obtain ⟨h1, h2, h3⟩ := List.pairwise_append.mp h
      constructor
      · rintro e
        cases e
        refine ⟨by simp, fun z hz => ?_⟩
        rcases List.mem_append.mp hz with hz | hz
        · have := h3 z hz x (List.mem_singleton_self _)
          omega
        · rw [List.mem_singleton.mp hz]; exact Int.le_refl _
      · rintro ⟨hx, hz⟩
        rcases List.mem_append.mp hx with hx | hx
        · have h4 := h3 x hx y (List.mem_singleton_self _)
          have h5 := hz y (by simp)
          omega
        · rw [List.mem_singleton.mp hx]
theorem head_min {l : List α} (h : l.Pairwise (fun x y => p x < p y)) {x : α} : l.head? = some x ↔ x ∈ l ∧ ∀ z ∈ l, p x ≤ p z := by
  cases l with
  | nil => simp
  | cons a l =>
    obtain ⟨h1, h2⟩ := List.pairwise_cons.mp h
    rw [List.head?_cons]
    constructor
    · intro e
      cases e
      refine ⟨List.mem_cons_self, fun z hz => ?_⟩
      rcases List.mem_cons.mp hz with rfl | hz
      · exact Int.le_refl _
      · have := h1 z hz
        omega
    · rintro ⟨hx, hz⟩
      rcases List.mem_cons.mp hx with rfl | hx
      · rfl
      · have h4 := h1 x hx
        have h5 := hz a List.mem_cons_self
        omega
end
theorem nodup_inj {α β : Type} {f : α → β} : ∀ {l : List α}, (l.map f).Nodup → ∀ {x y : α}, x ∈ l → y ∈ l → f x = f y → x = y
  | [], _, _, _, h, _, _ => by cases h
  | a :: l, nd, x, y, hx, hy, e => by
    rw [List.map_cons, List.nodup_cons] at nd
    rcases List.mem_cons.mp hx with e1 | hx2
    · rcases List.mem_cons.mp hy with e2 | hy2
      · rw [e1, e2]
      · exact absurd (List.mem_map.mpr ⟨y, hy2, by rw [← e, e1]⟩) nd.1
    · rcases List.mem_cons.mp hy with e2 | hy2
      · exact absurd (List.mem_map.mpr ⟨x, hx2, by rw [e, e2]⟩) nd.1
      · exact nodup_inj nd.2 hx2 hy2 e
/-! ### lines -/
section
variable {zs : List Str} {rows : List Dl} {key : Str}
theorem byPlace_perm : (byPlace rows).Perm rows := List.mergeSort_perm _ _
theorem byPlace_lt (np : (rows.map (·.place)).Nodup) : (byPlace rows).Pairwise fun x y => x.place < y.place := by
  have h1 : (byPlace rows).Pairwise fun x y => decide (x.place ≤ y.place) = true := List.pairwise_mergeSort (fun x y z h1 h2 => by simp at *; omega) (fun x y => by simp; omega) rows
  have h2 : ((byPlace rows).map (·.place)).Nodup := (byPlace_perm.map _).nodup_iff.mpr np
  have h3 : (byPlace rows).Pairwise fun x y => x.place ≠ y.place := List.pairwise_map.mp h2
  refine (h1.and h3).imp fun {x y} h => ?_
  have := of_decide_eq_true h.1
  have := h.2
  omega
theorem line_lt (np : (rows.map (·.place)).Nodup) : (lineOf rows key).Pairwise fun x y => x.place < y.place := (byPlace_lt np).sublist List.filter_sublist
theorem line_mem {r : Dl} : r ∈ lineOf rows key ↔ r ∈ rows ∧ key ∈ r.writes := by
  unfold lineOf
  rw [List.mem_filter, byPlace_perm.mem_iff, decide_eq_true_iff]
/-- what the law tries -/
def betweenF (one other : Dl) (key : Str) (rows : List Dl) : List Dl := rows.filter fun r => decide (key ∈ r.writes) && (!decide (r.num = one.num) && !decide (r.num = other.num))
def tie1 (one other : Dl) (key : Str) (rows : List Dl) : Bool := (decide (key ∈ one.writes) && decide (key ∈ other.writes) && decide (one.place < other.place)) && ((betweenF one other key rows).filter fun r => decide (one.place < r.place) && decide (r.place < other.place)).isEmpty
def tie2 (one other : Dl) (key : Str) (rows : List Dl) : Bool := (decide (key ∈ one.writes) && asksB other key && decide (one.place ≤ other.stand)) && ((betweenF one other key rows).filter fun r => decide (one.place < r.place) && decide (r.place ≤ other.stand)).isEmpty
def tie3 (one other : Dl) (key : Str) (rows : List Dl) : Bool := (decide (key ∈ other.writes) && asksB one key && decide (one.stand < other.place)) && ((betweenF one other key rows).filter fun r => decide (one.stand < r.place) && decide (r.place < other.place)).isEmpty
def tiedB (one other : Dl) (key : Str) (rows : List Dl) : Bool := tie1 one other key rows || (tie2 one other key rows || tie3 one other key rows)
theorem empty_iff {α : Type} {l : List α} {q : α → Bool} : (l.filter q).isEmpty = true ↔ ∀ x ∈ l, q x = false := by
  rw [List.isEmpty_iff, List.filter_eq_nil_iff]
  exact ⟨fun h x hx => by have := h x hx; simpa using this, fun h x hx => by rw [h x hx]; simp⟩
theorem tied_iff (ok : DealsOk zs rows) {one other : Dl} (h1 : one ∈ rows) (h2 : other ∈ rows) (hne : one.num ≠ other.num) : tiedB one other key rows = true ↔ TieK rows (lineOf rows key) key (one.num, other.num) := by
  have hs := line_lt (key := key) ok.np
  have num : ∀ {x y : Dl}, x ∈ rows → y ∈ rows → x.num = y.num → x = y := fun hx hy e => nodup_inj ok.nn hx hy e
  have bt : ∀ r, r ∈ betweenF one other key rows ↔ r ∈ lineOf rows key ∧ r.num ≠ one.num ∧ r.num ≠ other.num := fun r => by
    unfold betweenF
    rw [List.mem_filter, line_mem]
    simp only [Bool.and_eq_true, decide_eq_true_eq, Bool.not_eq_true', decide_eq_false_iff_not]
    exact ⟨fun h => ⟨⟨h.1, h.2.1⟩, h.2.2⟩, fun h => ⟨h.1.1, h.1.2, h.2⟩⟩
  have r1 : tie1 one other key rows = true ↔ (one.num, other.num) ∈ ((lineOf rows key).zip ((lineOf rows key).drop 1)).map fun q => (q.1.num, q.2.num) := by
    unfold tie1
    rw [Bool.and_eq_true, empty_iff]
    simp only [Bool.and_eq_true, decide_eq_true_eq]
    constructor
    · rintro ⟨⟨⟨a1, a2⟩, a3⟩, a4⟩
      refine List.mem_map.mpr ⟨(one, other), (zip_next hs).mpr ⟨line_mem.mpr ⟨h1, a1⟩, line_mem.mpr ⟨h2, a2⟩, a3, fun z hz hb => ?_⟩, rfl⟩
      have hzr := (line_mem.mp hz).1
      have := a4 z ((bt z).mpr ⟨hz, fun e => by rw [num hzr h1 e] at hb; omega, fun e => by rw [num hzr h2 e] at hb; omega⟩)
      simp only [Bool.and_eq_false_iff, decide_eq_false_iff_not] at this
      omega
    · intro hm
      obtain ⟨⟨x, y⟩, hq, e⟩ := List.mem_map.mp hm
      obtain ⟨b1, b2, b3, b4⟩ := (zip_next hs).mp hq
      injection e with e1 e2
      have e1 := num (line_mem.mp b1).1 h1 e1
      have e2 := num (line_mem.mp b2).1 h2 e2
      subst e1 e2
      refine ⟨⟨⟨(line_mem.mp b1).2, (line_mem.mp b2).2⟩, b3⟩, fun z hz => ?_⟩
      have := b4 z ((bt z).mp hz).1
      simp only [Bool.and_eq_false_iff, decide_eq_false_iff_not]
      omega
  have r2 : tie2 one other key rows = true ↔ asksB other key = true ∧ (aheadN other (lineOf rows key)).getLast? = some one.num := by
    unfold tie2 aheadN
    rw [Bool.and_eq_true, empty_iff, List.getLast?_map]
    have hf : ((lineOf rows key).filter fun o => decide (o.place ≤ other.stand)).Pairwise fun x y => x.place < y.place := hs.sublist List.filter_sublist
    have s1 := (ok.each other h2).s1
    simp only [Bool.and_eq_true, decide_eq_true_eq]
    constructor
    · rintro ⟨⟨⟨a1, a2⟩, a3⟩, a4⟩
      refine ⟨a2, ?_⟩
      rw [(last_max hf (x := one)).mpr ⟨List.mem_filter.mpr ⟨line_mem.mpr ⟨h1, a1⟩, decide_eq_true a3⟩, fun z hz => ?_⟩]
      · rfl
      · obtain ⟨hz1, hz2⟩ := List.mem_filter.mp hz
        have hz2 := of_decide_eq_true hz2
        have hzr := (line_mem.mp hz1).1
        by_cases c : z.num = one.num
        · rw [num hzr h1 c]; exact Int.le_refl _
        · have := a4 z ((bt z).mpr ⟨hz1, c, fun e => by rw [num hzr h2 e] at hz2; omega⟩)
          simp only [Bool.and_eq_false_iff, decide_eq_false_iff_not] at this
          omega
    · rintro ⟨a2, hl⟩
      obtain ⟨x, hx, e⟩ := Option.map_eq_some_iff.mp hl
      obtain ⟨b1, b2⟩ := (last_max hf).mp hx
      obtain ⟨b3, b4⟩ := List.mem_filter.mp b1
      have e := num (line_mem.mp b3).1 h1 e
      subst e
      refine ⟨⟨⟨(line_mem.mp b3).2, a2⟩, of_decide_eq_true b4⟩, fun z hz => ?_⟩
      have hz1 := ((bt z).mp hz).1
      simp only [Bool.and_eq_false_iff, decide_eq_false_iff_not]
      by_cases c : z.place ≤ other.stand
      · have := b2 z (List.mem_filter.mpr ⟨hz1, decide_eq_true c⟩)
        omega
      · exact .inr c
  have r3 : tie3 one other key rows = true ↔ asksB one key = true ∧ (behindN one (lineOf rows key)).head? = some other.num := by
    unfold tie3 behindN
    rw [Bool.and_eq_true, empty_iff, List.head?_map]
    have hf : ((lineOf rows key).filter fun o => decide (one.stand < o.place) && !decide (o.num = one.num)).Pairwise fun x y => x.place < y.place := hs.sublist List.filter_sublist
    simp only [Bool.and_eq_true, decide_eq_true_eq]
    constructor
    · rintro ⟨⟨⟨a1, a2⟩, a3⟩, a4⟩
      refine ⟨a2, ?_⟩
      rw [(head_min hf (x := other)).mpr ⟨List.mem_filter.mpr ⟨line_mem.mpr ⟨h2, a1⟩, by simp [a3]; exact fun e => hne e.symm⟩, fun z hz => ?_⟩]
      · rfl
      · obtain ⟨hz1, hz2⟩ := List.mem_filter.mp hz
        simp only [Bool.and_eq_true, decide_eq_true_eq, Bool.not_eq_true', decide_eq_false_iff_not] at hz2
        have hzr := (line_mem.mp hz1).1
        by_cases c : z.num = other.num
        · rw [num hzr h2 c]; exact Int.le_refl _
        · have := a4 z ((bt z).mpr ⟨hz1, hz2.2, c⟩)
          simp only [Bool.and_eq_false_iff, decide_eq_false_iff_not] at this
          omega
    · rintro ⟨a2, hl⟩
      obtain ⟨x, hx, e⟩ := Option.map_eq_some_iff.mp hl
      obtain ⟨b1, b2⟩ := (head_min hf).mp hx
      obtain ⟨b3, b4⟩ := List.mem_filter.mp b1
      have e := num (line_mem.mp b3).1 h2 e
      subst e
      simp only [Bool.and_eq_true, decide_eq_true_eq, Bool.not_eq_true', decide_eq_false_iff_not] at b4
      refine ⟨⟨⟨(line_mem.mp b3).2, a2⟩, b4.1⟩, fun z hz => ?_⟩
      obtain ⟨hz1, hz2, hz3⟩ := (bt z).mp hz
      simp only [Bool.and_eq_false_iff, decide_eq_false_iff_not]
      by_cases c : one.stand < z.place
      · have := b2 z (List.mem_filter.mpr ⟨hz1, by simp [c, hz2]⟩)
        omega
      · exact .inl c
  unfold tiedB TieK
  rw [Bool.or_eq_true, Bool.or_eq_true, r1, r2, r3]
  refine or_congr Iff.rfl ⟨?_, ?_⟩
  · rintro (⟨a1, a2⟩ | ⟨a1, a2⟩)
    · exact ⟨other, h2, a1, List.mem_append_left _ (by rw [a2]; simp)⟩
    · exact ⟨one, h1, a1, List.mem_append_right _ (by rw [a2]; simp)⟩
  · rintro ⟨r, hr, a1, a2⟩
    rcases List.mem_append.mp a2 with a2 | a2
    · obtain ⟨a, ha, e⟩ := List.mem_map.mp a2
      injection e with e1 e2
      have e2 := num hr h2 e2
      subst e2
      rw [← e1]
      exact .inl ⟨a1, Option.mem_toList.mp ha⟩
    · obtain ⟨a, ha, e⟩ := List.mem_map.mp a2
      injection e with e1 e2
      have e1 := num hr h1 e1
      subst e1
      rw [← e2]
      exact .inr ⟨a1, Option.mem_toList.mp ha⟩
/-- a tie is between two that are unlike, of these -/
theorem tieK_of (ok : DealsOk zs rows) {x : Int × Int} (h : TieK rows (lineOf rows key) key x) : ∃ one ∈ rows, ∃ other ∈ rows, one.num ≠ other.num ∧ x = (one.num, other.num) ∧ ∃ r ∈ rows, key ∈ r.writes := by
  have hs := line_lt (key := key) ok.np
  have num : ∀ {x y : Dl}, x ∈ rows → y ∈ rows → x.num = y.num → x = y := fun hx hy e => nodup_inj ok.nn hx hy e
  rcases h with h | ⟨r, hr, ha, h⟩
  · obtain ⟨⟨a, b⟩, hq, e⟩ := List.mem_map.mp h
    obtain ⟨b1, b2, b3, b4⟩ := (zip_next hs).mp hq
    refine ⟨a, (line_mem.mp b1).1, b, (line_mem.mp b2).1, fun z => ?_, e.symm, a, (line_mem.mp b1).1, (line_mem.mp b1).2⟩
    rw [num (line_mem.mp b1).1 (line_mem.mp b2).1 z] at b3
    omega
  · rcases List.mem_append.mp h with h | h
    · obtain ⟨n, hn, e⟩ := List.mem_map.mp h
      have hn := List.mem_of_getLast? (Option.mem_toList.mp hn)
      obtain ⟨a, ha2, rfl⟩ := List.mem_map.mp hn
      obtain ⟨b1, b2⟩ := List.mem_filter.mp ha2
      have b2 := of_decide_eq_true b2
      have s1 := (ok.each r hr).s1
      refine ⟨a, (line_mem.mp b1).1, r, hr, fun z => ?_, e.symm, a, (line_mem.mp b1).1, (line_mem.mp b1).2⟩
      rw [num (line_mem.mp b1).1 hr z] at b2
      omega
    · obtain ⟨n, hn, e⟩ := List.mem_map.mp h
      have hn := List.mem_of_head? (Option.mem_toList.mp hn)
      obtain ⟨a, ha2, rfl⟩ := List.mem_map.mp hn
      obtain ⟨b1, b2⟩ := List.mem_filter.mp ha2
      simp only [Bool.and_eq_true, decide_eq_true_eq, Bool.not_eq_true', decide_eq_false_iff_not] at b2
      exact ⟨r, hr, a, (line_mem.mp b1).1, fun z => b2.2 z.symm, e.symm, a, (line_mem.mp b1).1, (line_mem.mp b1).2⟩
/-- all ties, as the law tries them -/
def condB (keys : List Str) (rows : List Dl) (one other : Dl) : Bool := !decide (one.num = other.num) && keys.any fun key => tiedB one other key rows
def dueF (keys : List Str) (rows ones : List Dl) : List (Int × Int) := ones.flatMap fun one => (rows.filter (condB keys rows one)).map fun other => (one.num, other.num)
theorem due_nodup {keys : List Str} (nn : (rows.map (·.num)).Nodup) : ∀ {ones : List Dl}, (ones.map (·.num)).Nodup → (dueF keys rows ones).Nodup
  | [], _ => by simp [dueF]
  | one :: ones, nd => by
    rw [List.map_cons, List.nodup_cons] at nd
    unfold dueF
    rw [List.flatMap_cons]
    refine List.nodup_append.mpr ⟨?_, due_nodup nn nd.2, fun x hx y hy hxy => ?_⟩
    · have h1 : ((rows.filter (condB keys rows one)).map (·.num)).Nodup := nn.sublist (List.filter_sublist.map _)
      exact List.pairwise_map.mpr ((List.pairwise_map.mp h1).imp fun h e => h (by injection e))
    · obtain ⟨o1, _, rfl⟩ := List.mem_map.mp hx
      obtain ⟨a, ha, hy⟩ := List.mem_flatMap.mp hy
      obtain ⟨o2, _, rfl⟩ := List.mem_map.mp hy
      injection hxy with e1 e2
      exact nd.1 (List.mem_map.mpr ⟨a, ha, e1.symm⟩)
theorem due_mem (ok : DealsOk zs rows) {keys : List Str} (hk : ∀ key, key ∈ keys ↔ ∃ r ∈ rows, key ∈ r.writes) (x : Int × Int) : x ∈ dueF keys rows rows ↔ TieP rows x := by
  unfold dueF
  rw [List.mem_flatMap]
  constructor
  · rintro ⟨one, h1, h⟩
    obtain ⟨other, h2, rfl⟩ := List.mem_map.mp h
    obtain ⟨h2, h3⟩ := List.mem_filter.mp h2
    unfold condB at h3
    simp only [Bool.and_eq_true, Bool.not_eq_true', decide_eq_false_iff_not, List.any_eq_true] at h3
    obtain ⟨hne, key, _, ht⟩ := h3
    exact ⟨key, (tied_iff ok h1 h2 hne).mp ht⟩
  · rintro ⟨key, ht⟩
    obtain ⟨one, h1, other, h2, hne, rfl, hw⟩ := tieK_of ok ht
    refine ⟨one, h1, List.mem_map.mpr ⟨other, List.mem_filter.mpr ⟨h2, ?_⟩, rfl⟩⟩
    unfold condB
    simp only [Bool.and_eq_true, Bool.not_eq_true', decide_eq_false_iff_not, List.any_eq_true]
    exact ⟨hne, key, (hk key).mpr hw, (tied_iff ok h1 h2 hne).mpr ht⟩
end
end Y
/-! while, dict comprehensions, the least of a dict or of pairs, a dict against {}, how many a set has. -/
namespace Y
open PySem PySem.Spec PyProof.Rows L2
section
variable {K : PySem.W.Frag} {e : En} {B H : Hp} {L : Led} {Q : VK} {σ : L2.St} {nx bk ct : L2.St → Hp → Prop} {rt : VK}
/-- a while loop: W with a measure -/
theorem y_while {c : TT} {tb : TS} (W : Nat → L2.St → Hp → Prop) (m0 : Nat) (h0 : W m0 σ H)
    (hs : ∀ m σ H, W m σ H → ∀ QT : Bool → Hp → Prop, (∀ b H1, (if b = true then tb ⟨fun σ' H' => ∃ m', m' < m ∧ W m' σ' H', rt, nx, fun σ' H' => ∃ m', m' < m ∧ W m' σ' H'⟩ σ H1 else nx σ H1) → QT b H1) → c σ H QT) : tWhile c tb ⟨nx, rt, bk, ct⟩ σ H := by
  refine ⟨W, ⟨m0, h0⟩, fun m σ H hw => hs m σ H hw _ fun b H1 h => ?_⟩
  cases b with
  | false => exact h
  | true => exact ⟨_, fun _ _ q => q, h⟩
/-! ### dict comprehensions -/
def DcG (J : It) (g : TG) (tt : TT) (tk tv : TE) (vs : List Nat) (σ : L2.St) (Q : VK) : Hp → Prop := fun H1 => ∀ D, H1 D = none → ∃ W : Nat → Nat → Hp → Prop, (∃ m, W 0 m (upd H1 D (.dK []))) ∧ ∀ i m H, W i m H →
  (J.stop i H ∧ Q (.ref D) H) ∨ (J.go i H ∧ ∃ Nx : Hp → Prop, (∀ H', Nx H' → ∃ m', m' < m ∧ W (i + 1) m' H') ∧ ∀ x H', J.yld i H x H' → g x (wipe σ vs) H' fun σ2 H2 => wipe σ2 vs = wipe σ vs ∧ tt σ2 H2 fun b H3 =>
    if b = true then tk σ2 H3 fun y H4 => tv σ2 H4 fun z H5 => ∃ kvs k, y = kV k ∧ H5 D = some (.dK kvs) ∧ kvs.length < sizeLine ∧ Nx (upd H5 D (.dK (putK kvs k z))) else Nx H3)
theorem y_dc {wi : TI} {g : TG} {tt : TT} {tk tv : TE} {vs : List Nat} (h : wi σ H fun J H1 => DcG J g tt tk tv vs σ Q H1) : tDc wi g tt tk tv vs σ H Q := h
theorem y_dcG {J : It} {n : Nat} {G : Hp → Prop} {Y : Nat → Hp → V → Hp → Prop} {g : TG} {tt : TT} {tk tv : TE} {vs : List Nat} (w : Walk J n G Y) (S : Sy e B H L) (Pv : Nat → Hp → List (Key × V) → Led → Prop) (h0 : Pv 0 B [] L)
    (hG : ∀ i B1 H1 kvs L1 D, Pv i B1 kvs L1 → Same B B1 → Sy e B1 H1 ((D, .dK kvs) :: L1) → G H1)
    (hs : ∀ i x B1 H1 H1' kvs L1 D (Kp : V → VK) (Kn : Hp → Prop), i < n → Pv i B1 kvs L1 → Same B B1 → e.H D = none → Sy e B1 H1 ((D, .dK kvs) :: L1) → Y i H1 x H1' →
      (∀ k z B4 H4 L4, kvs.length < sizeLine → Same B B4 → Sy e B4 H4 ((D, .dK kvs) :: L4) → Pv (i + 1) B4 (putK kvs k z) L4 → Kp (kV k) z H4) → (∀ B4 H4 L4, Same B B4 → Sy e B4 H4 ((D, .dK kvs) :: L4) → Pv (i + 1) B4 kvs L4 → Kn H4) →
      g x (wipe σ vs) H1' fun σ2 H2 => wipe σ2 vs = wipe σ vs ∧ tt σ2 H2 fun b H3 => if b = true then tk σ2 H3 fun y H4 => tv σ2 H4 (Kp y) else Kn H3)
    (hd : ∀ B1 H1 kvs L1 D, Pv n B1 kvs L1 → Same B B1 → e.H D = none → Sy e B1 H1 ((D, .dK kvs) :: L1) → Q (.ref D) H1) : DcG J g tt tk tv vs σ Q H := by
  intro D hD
  obtain ⟨s1, s2⟩ := S.newM (o := .dK []) hD
  refine ⟨fun i m H1 => m = n - i ∧ i ≤ n ∧ ∃ B1 kvs L1, Sy e B1 H1 ((D, .dK kvs) :: L1) ∧ Same B B1 ∧ Pv i B1 kvs L1, ⟨n, by simp, Nat.zero_le _, B, [], L, s2, Same.refl B, h0⟩, ?_⟩
  rintro i m H1 ⟨rfl, hi, B1, kvs, L1, S1, b1, p1⟩
  have q := hG i B1 H1 kvs L1 D p1 b1 S1
  by_cases hlt : i < n
  · refine .inr ⟨w.goes i H1 hlt q, fun H2 => ∃ B1 kvs L1, Sy e B1 H2 ((D, .dK kvs) :: L1) ∧ Same B B1 ∧ Pv (i + 1) B1 kvs L1, fun H' p' => ⟨n - (i + 1), by omega, rfl, hlt, p'⟩, fun x H' y => ?_⟩
    refine hs i x B1 H1 H' kvs L1 D _ _ hlt p1 b1 s1 S1 (w.yields i H1 x H' hlt q y) (fun k z B4 H4 L4 hl b4 S4 p4 => ?_) (fun B4 H4 L4 b4 S4 p4 => ⟨B4, kvs, L4, S4, b4, p4⟩)
    exact ⟨kvs, k, rfl, S4.g0, hl, B4, _, L4, S4.w0 _, b4, p4⟩
  · have e1 : i = n := by omega
    subst e1
    exact .inl ⟨w.stops H1 q, hd B1 H1 kvs L1 D p1 b1 s1 S1⟩
end
/-! ### the least of a dict's keys -/
section
variable {X : Cx}
def rMinD : List V → Hp → VK → Prop := fun vs H Q => ∃ (d : Addr) (kvs : List (Key × V)) (ns : List Int), vs = [.ref d] ∧ Rd H d (.dK kvs) ∧ kvs.map (·.1) = ns.map .inl ∧ 0 < ns.length ∧ ∀ m, m ∈ ns → (∀ y ∈ ns, m ≤ y) → Q (.int m) H
theorem cr_minD (hc : X.calm = true) : CallR X (.builtin "min") rMinD := by
  intro pins s σ H vs us Q I r h
  obtain ⟨d, kvs, ns, rfl, hd, hns, hpos, q⟩ := h
  obtain ⟨u, rfl, ru⟩ := vals1 r
  obtain rfl : u = Value.ref d := ru
  obtain ⟨z, lo, ws, rel, dd⟩ := dk_rd I.hok hd
  obtain ⟨ep, hat⟩ := dd.dictAt
  have hl : kvs.length = ws.length := Paired.length rel
  have hln : kvs.length = ns.length := by have := congrArg List.length hns; rwa [List.length_map, List.length_map] at this
  have hlt : d < s.heap.objs.size := by obtain ⟨o, es, ho, _⟩ := hat; exact Heap.lt_size ho
  have val : ∀ (i : Nat) (k : Key) (x : Value), ws[i]? = some (k, x) → k = .inl (ns.getD i 0) ∧ i < ns.length := fun i k x e1 => by
    have e2 : (kvs.map (·.1))[i]? = some k := by rw [KV.keys rel, List.getElem?_map, e1]; rfl
    rw [hns, List.getElem?_map] at e2
    obtain ⟨m, e3, e4⟩ := Option.map_eq_some_iff.mp e2
    exact ⟨by rw [List.getD_eq_getElem?_getD, e3]; exact e4.symm, (List.getElem?_eq_some_iff.mp e3).1⟩
  refine PySem.call_min_walk ?_
  refine wpAny_pyIter_dict (knd := mixKind X.prog X.w) lo hat ?_
  refine ⟨_, _, _, _, _, _, fun i j => decide (-(ns.getD j 0) < -(ns.getD i 0)), rfl, Walks.dictKeys (A := X.A.in1) (knd := mixKind X.prog X.w) (I.ok.hd hc) s.heap.objs.size d (Nat.ne_of_lt hlt) ws ep, ?_, ?_, ?_, ?_, ?_⟩
  · exact ⟨⟨_, Heap.get?_push_size _ rfl, rfl, rfl⟩, hat.at' fun o e => Heap.get?_push_of_some _ e⟩
  · intro b hb
    show b < (s.heap.push _).objs.size
    rw [Heap.size_push]
    rcases List.mem_cons.mp hb with rfl | hb
    · exact Nat.lt_succ_self _
    · rw [List.mem_singleton.mp hb]
      exact Nat.lt_succ_of_lt hlt
  · omega
  · intro i j vi vj s' Q' E' hi hj hq
    obtain ⟨k1, x1, e1, i1⟩ := hi
    obtain ⟨k2, x2, e2, i2⟩ := hj
    obtain ⟨rfl, _⟩ := val i k1 x1 e1
    obtain ⟨rfl, _⟩ := val j k2 x2 e2
    have r1 : RelV (kV (.inl (ns.getD i 0))) vi := keyIs_rel i1
    have r2 : RelV (kV (.inl (ns.getD j 0))) vj := keyIs_rel i2
    obtain ⟨t1, rfl⟩ := r1
    obtain ⟨t2, rfl⟩ := r2
    have e3 : decide (-(ns.getD j 0) < -(ns.getD i 0)) = decide (ns.getD i 0 < ns.getD j 0) := by
      by_cases c : ns.getD i 0 < ns.getD j 0
      · rw [decide_eq_true c, decide_eq_true (by omega)]
      · rw [decide_eq_false c, decide_eq_false (by omega)]
    have hq : Q' (.bool (decide (-(ns.getD j 0) < -(ns.getD i 0)))) s' := hq
    rw [e3] at hq
    exact lt_int hq
  · intro v h' tk hP hk
    obtain ⟨k1, x1, e1, i1⟩ := hP
    obtain ⟨rfl, _⟩ := val _ k1 x1 e1
    have r1 : RelV (kV (.inl (ns.getD (argBest (fun i j => decide (-ns.getD j 0 < -ns.getD i 0)) (ws.length - 1)) 0))) v := keyIs_rel i1
    obtain ⟨t1, rfl⟩ := r1
    obtain ⟨b1, b2⟩ := best_of (bt := fun i j => decide (-(ns.getD j 0) < -(ns.getD i 0))) (f := fun i => -(ns.getD i 0)) (fun _ _ => rfl) (ws.length - 1)
    refine ⟨.int _, H, I.kept (t' := tk) fun b o e => hk b o (fun z => ?_) (Heap.get?_push_of_some _ e), ⟨_, rfl⟩, q _ ?_ fun y hy => ?_⟩
    · rw [List.mem_singleton] at z
      exact absurd (Heap.lt_size e) (by rw [z]; exact Nat.lt_irrefl _)
    · rw [List.getD_eq_getElem?_getD, List.getElem?_eq_getElem (by omega)]
      exact List.getElem_mem _
    · obtain ⟨j, hj, e⟩ := List.getElem_of_mem hy
      have := b2 j (by omega)
      have e4 : ns.getD j 0 = y := by rw [List.getD_eq_getElem?_getD, List.getElem?_eq_getElem hj]; exact e
      rw [e4] at this
      omega
/-! ### the least of pairs -/
def rMinP (K : PySem.W.Frag) : List V → Hp → VK → Prop := fun vs H Q => ∃ (a : Addr) (xs : List V) (ps : List (Int × Int)), vs = [.ref a] ∧ SqL K H a xs ∧ DpAll K H xs (ps.map fun p => .tuple [.int p.1, .int p.2]) ∧ 0 < ps.length ∧
  ∀ (i : Nat) (x : V) (p : Int × Int), xs[i]? = some x → p ∈ ps → (∀ y ∈ ps, leT p y = true) → Dp K H x (.tuple [.int p.1, .int p.2]) → Q x H
theorem min_least {x : Int × Int} : ∀ {xs : List (Int × Int)}, PySem.W.minOf x xs ∈ x :: xs ∧ ∀ y ∈ x :: xs, leT (PySem.W.minOf x xs) y = true := by
  intro xs
  unfold PySem.W.minOf
  induction xs generalizing x with
  | nil => exact ⟨List.mem_cons_self, fun y hy => by rw [List.mem_singleton.mp hy]; exact leT_iff.mpr (.inr ⟨rfl, Int.le_refl _⟩)⟩
  | cons a xs ih =>
    rw [List.foldl_cons]
    by_cases c : PySem.W.DatumOrd.lt a x = true
    · rw [if_pos c]
      obtain ⟨h1, h2⟩ := ih (x := a)
      refine ⟨List.mem_cons_of_mem _ h1, fun y hy => ?_⟩
      rcases List.mem_cons.mp hy with rfl | hy
      · have h3 := h2 a List.mem_cons_self
        refine leT_trans _ _ _ h3 (leT_iff.mpr ?_)
        have c : (if a.1 = y.1 then decide (a.2 < y.2) else decide (a.1 < y.1)) = true := c
        split at c
        · next e => exact .inr ⟨e, by have := of_decide_eq_true c; omega⟩
        · exact .inl (of_decide_eq_true c)
      · exact h2 y hy
    · rw [if_neg c]
      obtain ⟨h1, h2⟩ := ih (x := x)
      refine ⟨?_, fun y hy => ?_⟩
      · rcases List.mem_cons.mp h1 with h1 | h1
        · rw [h1]; exact List.mem_cons_self
        · exact List.mem_cons_of_mem _ (List.mem_cons_of_mem _ h1)
      · rcases List.mem_cons.mp hy with rfl | hy
        · exact h2 y List.mem_cons_self
        · rcases List.mem_cons.mp hy with rfl | hy
          · have h3 := h2 x List.mem_cons_self
            refine leT_trans _ _ _ h3 (leT_iff.mpr ?_)
            have c : ¬ (if y.1 = x.1 then decide (y.2 < x.2) else decide (y.1 < x.1)) = true := c
            split at c
            · next e => exact .inr ⟨e.symm, by simpa using c⟩
            · have : x.1 ≤ y.1 := by simpa using c
              omega
          · exact h2 y (List.mem_cons_of_mem _ hy)
theorem dps_cons {K : PySem.W.Frag} {H : Hp} {α : Type} {enc : α → PyData} : ∀ {xs : List V} {ps : List α}, DpAll K H xs (ps.map enc) → xs.length = ps.length
  | _, [], h => by cases h; rfl
  | _, p :: ps, h => by
    cases h with
    | cons _ t => rw [List.length_cons, List.length_cons, dps_cons t]
theorem hold_all {pins : List (Addr × Obj)} {s : Shared} {σ : L2.St} {H : Hp} (I : Inv X pins σ H s) : ∀ {ps : List (Int × Int)} {xs : List V} {us : List Value}, Vals xs us → DpAll X.K H xs (ps.map fun p => .tuple [.int p.1, .int p.2]) → PySem.W.HoldAll s.heap us ps
  | [], _, _, r, h => by
    cases h
    cases r
    exact ⟨[], .nil⟩
  | p :: ps, _, _, r, h => by
    cases h with
    | cons h1 h2 =>
      cases r with
      | cons r1 r2 =>
        exact PySem.W.HoldAll.cons (Dp.reads I _ _ _ h1 r1) (hold_all I r2 h2)
theorem dps_at {K : PySem.W.Frag} {H : Hp} {α : Type} {enc : α → PyData} : ∀ {xs : List V} {ps : List α} {i : Nat} {x : V}, DpAll K H xs (ps.map enc) → xs[i]? = some x → ∃ p, ps[i]? = some p ∧ Dp K H x (enc p)
  | _, [], _, _, h, e => by cases h; simp at e
  | _, p :: ps, 0, x, h, e => by
    cases h with
    | cons h1 _ =>
      have := Option.some.inj e
      subst this
      exact ⟨p, rfl, h1⟩
  | _, p :: ps, i + 1, x, h, e => by
    cases h with
    | cons _ h2 => exact dps_at (i := i) h2 (by simpa using e)
theorem reads_pair {h : Heap} {v : Value} {a b c d : Int} {as bs : List Addr} (r1 : Reads h v (.tuple [.int a, .int b]) as) (r2 : Reads h v (.tuple [.int c, .int d]) bs) : a = c ∧ b = d := by
  have h1 := (Reads.unique r1 _ _ r2).1
  injection h1 with h1
  injection h1 with h2 h3
  injection h3 with h3 _
  exact ⟨PyData.int.inj h2, PyData.int.inj h3⟩
theorem cr_minP {K : PySem.W.Frag} (hK : X.K = K) (hc : X.calm = true) (hu : X.A.units + 64 < cLine) : CallR X (.builtin "min") (rMinP K) := by
  subst hK
  intro pins s σ H vs us Q I r h
  obtain ⟨a, xs, ps, rfl, hs, hd, hpos, q⟩ := h
  obtain ⟨its, rv, hl, hz⟩ := I.list hs
  obtain ⟨u, rfl, ru⟩ := vals1 r
  obtain rfl : u = Value.ref a := ru
  match ps, hd, hpos, q with
  | [], _, h, _ => exact absurd h (by simp)
  | p :: ps, hd, _, q =>
    refine PySem.W.min_list_datum (x := p) (xs := ps) (I.ok.hd hc) hl.isList (by simpa using hold_all I rv hd) (by have h9 : PySem.W.Datum.depth (Int × Int) ≤ 60 := (by decide); omega) fun i v h' tk hi hv hk => ?_
    have hi : its[i]? = some v := by simpa using hi
    obtain ⟨x, hx, rx⟩ := pr_get rv hi
    obtain ⟨pp, hp1, hp2⟩ := dps_at hd hx
    have I1 : Inv X pins σ H { s with heap := h', toks := tk } := I.kept hk
    obtain ⟨as, r1⟩ := Dp.reads I1 _ x v hp2 rx
    obtain ⟨bs, r2⟩ := hv
    obtain ⟨e1, e2⟩ := reads_pair r1 r2
    have e3 : pp = PySem.W.minOf p ps := Prod.ext e1 e2
    obtain ⟨m1, m2⟩ := min_least (x := p) (xs := ps)
    exact ⟨x, H, I1, rx, q i x pp hx (by rw [e3]; exact m1) (by rw [e3]; exact m2) hp2⟩
/-- min(..): two ints, a list of ints, a dict, a list of pairs -/
def rMinZ (K : PySem.W.Frag) : List V → Hp → VK → Prop := fun xs H Q => rMin2 xs H Q ∨ (rMin K xs H Q ∨ (rMinD xs H Q ∨ rMinP K xs H Q))
theorem call_minZ {K : PySem.W.Frag} (hK : X.K = K) (hc : X.calm = true) (hu : X.A.units + 64 < cLine) : CallR X (.builtin "min") (rMinZ K) := CallR.or (call_min2U hc) (CallR.or (hK ▸ cr_min hc) (CallR.or (cr_minD hc) (cr_minP hK hc hu)))
/-! ### a dict and {} -/
def rEqDE : R2 := fun x y H Q => ∃ a b kvs, x = .ref a ∧ y = .ref b ∧ Rd H a (.dK kvs) ∧ H b = some (.dK []) ∧ Q (.bl kvs.isEmpty) H
def rNeDE : R2 := fun x y H Q => ∃ a b kvs, x = .ref a ∧ y = .ref b ∧ Rd H a (.dK kvs) ∧ H b = some (.dK []) ∧ Q (.bl (!kvs.isEmpty)) H
theorem op_eqDE (hu : X.A.units + 64 < cLine) : OpR X (compareOp .Eq) rEqDE := by
  intro pins s σ H x y v u Q I rx ry h
  obtain ⟨a, b, kvs, rfl, rfl, ha, hb, q⟩ := h
  obtain rfl : v = Value.ref a := rx
  obtain rfl : u = Value.ref b := ry
  obtain ⟨_, l1, ws, rel, dd⟩ := dk_rd I.hok ha
  obtain ⟨_, l2, ws2, rel2, dd2⟩ := dk_of I.hok hb
  cases rel2
  have hl : kvs.length = ws.length := Paired.length rel
  have nil : ws.length = ([] : List (Key × Value)).length → PySem.W.KeqHits X.A.in1 s ([] : List (Key × Value)) ws true := fun e => by
    rw [List.eq_nil_of_length_eq_zero e]
    exact .nil
  refine PySem.W.keq_eq (r := true) l1 l2 dd dd2 (by omega) nil ⟨.bl kvs.isEmpty, H, I, ?_, q⟩
  show Value.bool _ = Value.bool kvs.isEmpty
  rw [← hl, Bool.and_true]
  cases kvs <;> rfl
theorem op_neDE (hu : X.A.units + 64 < cLine) : OpR X (compareOp .NotEq) rNeDE := by
  intro pins s σ H x y v u Q I rx ry h
  obtain ⟨a, b, kvs, rfl, rfl, ha, hb, q⟩ := h
  obtain rfl : v = Value.ref a := rx
  obtain rfl : u = Value.ref b := ry
  obtain ⟨_, l1, ws, rel, dd⟩ := dk_rd I.hok ha
  obtain ⟨_, l2, ws2, rel2, dd2⟩ := dk_of I.hok hb
  cases rel2
  have hl : kvs.length = ws.length := Paired.length rel
  have nil : ws.length = ([] : List (Key × Value)).length → PySem.W.KeqHits X.A.in1 s ([] : List (Key × Value)) ws true := fun e => by
    rw [List.eq_nil_of_length_eq_zero e]
    exact .nil
  refine PySem.W.keq_ne (r := true) l1 l2 dd dd2 (by omega) nil ⟨.bl (!kvs.isEmpty), H, I, ?_, q⟩
  show Value.bool _ = Value.bool (!kvs.isEmpty)
  rw [← hl, Bool.and_true]
  cases kvs <;> rfl
def rEqY (K : PySem.W.Frag) : R2 := fun x y H Q => rEqZ K x y H Q ∨ rEqDE x y H Q
def rNeY (K : PySem.W.Frag) : R2 := fun x y H Q => rNeZ K x y H Q ∨ rNeDE x y H Q
theorem op_eqY {K : PySem.W.Frag} (hK : X.K = K) (hu : X.A.units + 64 < cLine) : OpR X (compareOp .Eq) (rEqY K) := OpR.or (op_eqZ hK hu) (op_eqDE hu)
theorem op_neY {K : PySem.W.Frag} (hK : X.K = K) (hu : X.A.units + 64 < cLine) : OpR X (compareOp .NotEq) (rNeY K) := OpR.or (op_neZ hK hu) (op_neDE hu)
end
end Y
/-! max(list, default=c). -/
namespace Y
open PySem PySem.Spec PyProof.Rows L2
section
variable {X : Cx}
theorem hold_ints {pins : List (Addr × Obj)} {s : Shared} {σ : L2.St} {H : Hp} (I : Inv X pins σ H s) : ∀ {ns : List Int} {us : List Value}, Vals (ns.map V.int) us → PySem.W.HoldAll s.heap us ns
  | [], _, r => by
    cases r
    exact ⟨[], .nil⟩
  | n :: ns, _, r => by
    cases r with
    | cons r1 r2 =>
      obtain ⟨t, rfl⟩ := r1
      exact PySem.W.HoldAll.cons (PySem.W.holds_int n t) (hold_ints I r2)
theorem max_great {x : Int} : ∀ {xs : List Int}, PySem.W.maxOf x xs ∈ x :: xs ∧ ∀ y ∈ x :: xs, y ≤ PySem.W.maxOf x xs := by
  intro xs
  unfold PySem.W.maxOf
  induction xs generalizing x with
  | nil => exact ⟨List.mem_cons_self, fun y hy => by rw [List.mem_singleton.mp hy]; exact Int.le_refl _⟩
  | cons a xs ih =>
    rw [List.foldl_cons]
    by_cases c : PySem.W.DatumOrd.lt x a = true
    · rw [if_pos c]
      have c : x < a := of_decide_eq_true c
      obtain ⟨h1, h2⟩ := ih (x := a)
      refine ⟨List.mem_cons_of_mem _ h1, fun y hy => ?_⟩
      rcases List.mem_cons.mp hy with rfl | hy
      · have h3 := h2 a List.mem_cons_self
        omega
      · exact h2 y hy
    · rw [if_neg c]
      have c : ¬ x < a := fun z => c (decide_eq_true z)
      obtain ⟨h1, h2⟩ := ih (x := x)
      refine ⟨?_, fun y hy => ?_⟩
      · rcases List.mem_cons.mp h1 with h1 | h1
        · rw [h1]; exact List.mem_cons_self
        · exact List.mem_cons_of_mem _ (List.mem_cons_of_mem _ h1)
      · rcases List.mem_cons.mp hy with rfl | hy
        · exact h2 y List.mem_cons_self
        · rcases List.mem_cons.mp hy with rfl | hy
          · have h3 := h2 x List.mem_cons_self
            omega
          · exact h2 y (List.mem_cons_of_mem _ hy)
/-- the greatest of a list of ints, or c -/
def tMaxL (K : PySem.W.Frag) (c : Int) (te : TE) : TE := fun σ H Q => te σ H fun x H1 => ∃ (a : Addr) (ns : List Int), x = .ref a ∧ SqL K H1 a (ns.map V.int) ∧ (ns = [] → Q (.int c) H1) ∧ ∀ m ∈ ns, (∀ z ∈ ns, z ≤ m) → Q (.int m) H1
theorem pe_maxL {K : PySem.W.Frag} {e : Expr} {te : TE} {p kpos pos kp2 : Pos} {c : Int} {j : Nat} (hK : X.K = K) (hg : Gl X "max") (hc : X.calm = true) (hm : X.mg "max" = none) (he : PE X e te) (hu : X.A.units + 64 < cLine)
    (hst : backTo pos (starEach [e] X.env) = (false, eval e X.env) :: backTo pos (starEach [] X.env) := by rfl) :
    PE X (.Call (.Name "max" p) [e] [⟨some "default", .Constant (.int c) j kp2, kpos⟩] pos) (tMaxL K c te) := by
  subst hK
  refine ⟨fun pins s σ H Q I h => ?_⟩
  refine wpAny_Call_Name_kw (ld_blt I hg hm (by decide +kernel : bootBuiltins "max" = some (.builtin "max")) ?_)
  refine PyProof.Rows.callWith_kw ?_ hst (hplain := by rw [hst]; rfl)
  rw [hst]
  refine Calls.spliced_cons (thn (he.run pins s σ H _ I h) fun u s1 ⟨x, H1, I1, rx, a, ns, ex, hs, q0, q1⟩ => ?_)
  subst ex
  obtain rfl : u = Value.ref a := rx
  obtain ⟨its, rv, hl, hz⟩ := I1.list hs
  refine Calls.spliced_nil ?_
  show wpAny _ _ (evalAll [do let v ← eval (.Constant (.int c) j kp2) X.env; standAt pos; pure v]) _ _ _
  refine wpAny_evalAll_cons (wpAny_bind (wpAny_Constant_int (wpAny_bind (wpAny_standAt (wpAny_pure (wpAny_evalAll_nil ?_))))))
  refine PySem.W.max_list_datum_default (xs := ns) (I1.ok.hd hc) hl.isList (by simpa using hold_ints I1 rv) (by have h9 : PySem.W.Datum.depth Int ≤ 60 := (by decide); omega) (fun e0 h' tk hk => ?_) (fun y ys i v h' tk e0 hi hv hk => ?_)
  · exact ⟨.int c, H1, I1.kept hk, ⟨_, rfl⟩, q0 e0⟩
  · have hi : its[i]? = some v := by simpa using hi
    obtain ⟨x, hx, rx⟩ := pr_get rv hi
    rw [List.getElem?_map] at hx
    obtain ⟨n, hn, rfl⟩ := Option.map_eq_some_iff.mp hx
    obtain ⟨t, rfl⟩ := rx
    obtain ⟨bs, r2⟩ := hv
    have e1 := (Reads.unique (Reads.int n t) _ _ r2).1
    have e2 : n = PySem.W.maxOf y ys := PyData.int.inj e1
    obtain ⟨m1, m2⟩ := max_great (x := y) (xs := ys)
    exact ⟨.int n, H1, I1.kept hk, ⟨_, rfl⟩, q1 n (by rw [e2, e0]; exact m1) (by rw [e2, e0]; exact m2)⟩
def MaxLK (K : PySem.W.Frag) (c : Int) (Q : VK) : VK := fun x H1 => ∃ (a : Addr) (ns : List Int), x = .ref a ∧ SqL K H1 a (ns.map V.int) ∧ (ns = [] → Q (.int c) H1) ∧ ∀ m ∈ ns, (∀ z ∈ ns, z ≤ m) → Q (.int m) H1
theorem y_maxL {K : PySem.W.Frag} {c : Int} {te : TE} {σ : L2.St} {H : Hp} {Q : VK} (h : te σ H (MaxLK K c Q)) : tMaxL K c te σ H Q := h
theorem y_maxLK {K : PySem.W.Frag} {c : Int} {H : Hp} {Q : VK} {a : Addr} {ns : List Int} (h : SqL K H a (ns.map V.int)) (k : ∀ m, (m = c ∨ m ∈ ns) → (∀ z ∈ ns, z ≤ m) → Q (.int m) H) : MaxLK K c Q (.ref a) H :=
  ⟨a, ns, rfl, h, fun e => k c (.inl rfl) (fun z hz => by rw [e] at hz; cases hz), fun m hm hg => k m (.inr hm) hg⟩

/-! ### lists + lists, of any standing -/
def rCatS (K : PySem.W.Frag) : R2 := fun x y H Q => ∃ l b xs zs, x = .ref l ∧ y = .ref b ∧ SqL K H l xs ∧ SqL K H b zs ∧ xs.length + zs.length ≤ sizeLine ∧ ∀ p, H p = none → Q (.ref p) (upd H p (.lst (xs ++ zs)))
theorem op_catS {K : PySem.W.Frag} (hK : X.K = K) : OpR X (binaryOp .Add) (rCatS K) := by
  subst hK
  intro pins s σ H x y v u Q I rx ry h
  obtain ⟨l, b, xs, zs, rfl, rfl, hH, hB, hz, q⟩ := h
  cases rx
  cases ry
  obtain ⟨its, r, ⟨⟨cls, dd, data, sl⟩, n, ho, hc, hd, hs⟩, z⟩ := I.list hH
  obtain ⟨its2, r2, ⟨⟨cls2, dd2, data2, sl2⟩, n2, ho2, hc2, hd2, hs2⟩, z2⟩ := I.list hB
  simp only at hc hd hs hc2 hd2 hs2
  subst hc hd hs hc2 hd2 hs2
  have e1 := r.length
  have e2 := r2.length
  have e : its.toArray ++ its2.toArray = (its ++ its2).toArray := by simp
  refine concat_meets ⟨_, ho, rfl⟩ ⟨_, ho2, rfl⟩ noFill_list_add seq_list_add PySem.F.slot_list_add PySem.F.entry_list_add (PySem.F.args_list_add_2 _ _) (list_addW l b its.toArray its2.toArray n n2 _ _ sl sl2 (by rw [List.size_toArray, List.size_toArray]; omega)) ⟨ho, ho2, ?_⟩
  rw [e]
  exact ⟨.ref _, _, I.lnew (t' := s.toks) (r.append r2) (by rw [List.length_append]; omega), rfl, q _ I.fresh⟩
def rAddZ (K : PySem.W.Frag) : R2 := fun x y H Q => rAddU K x y H Q ∨ rCatS K x y H Q
theorem op_addZ {K : PySem.W.Frag} (hK : X.K = K) : OpR X (binaryOp .Add) (rAddZ K) := OpR.or (op_addU hK) (op_catS hK)
section
variable {K : PySem.W.Frag} {e : En} {B H : Hp} {L : Led} {Q : VK} {a b p : Addr} {xs ys : List V}
theorem z_addI {i j : Int} (q : Q (.int (i + j)) H) : rAddZ K (.int i) (.int j) H Q := .inl (y_addI q)
theorem z_addS {i j : Str} (h : i.length + j.length ≤ sizeLine) (q : Q (.str (i ++ j)) H) : rAddZ K (.str i) (.str j) H Q := .inl (y_addS h q)
theorem z_catS (h1 : SqL K H a xs) (h2 : SqL K H b ys) (hl : xs.length + ys.length ≤ sizeLine) (q : NewK (.lst (xs ++ ys)) Q H) : rAddZ K (.ref a) (.ref b) H Q := .inr ⟨a, b, xs, ys, rfl, rfl, h1, h2, hl, q⟩
theorem z_catT (h1 : SqT K H a xs) (h2 : SqT K H b ys) (n1 : xs ≠ []) (n2 : ys ≠ []) (hl : xs.length + ys.length ≤ sizeLine) (q : NewK (.tup (xs ++ ys)) Q H) : rAddZ K (.ref a) (.ref b) H Q := .inl (y_catT h1 h2 n1 n2 hl q)
/-- of data: +, slices, [::-1] -/
theorem z_catC {α : Type} {c : Cod α} {zs ws : List α} (S : Sy e B H L) (h1 : At (.list c) K B (.ref a) zs) (h2 : At (.list c) K B (.ref b) ws) (hl : zs.length + ws.length ≤ 100000) (q : ∀ t B' H', Same B B' → At (.list c) K B' (.ref t) (zs ++ ws) → Sy e B' H' L → Q (.ref t) H') : rAddZ K (.ref a) (.ref b) H Q := by
  obtain ⟨v1, q1, p1⟩ := at_list_ref h1
  obtain ⟨v2, q2, p2⟩ := at_list_ref h2
  have e1 : v1.length = zs.length := p1.length
  have e2 : v2.length = ws.length := p2.length
  refine z_catS (S.l q1) (S.l q2) (lenOk (by omega)) ?_
  refine y_newI S fun t B1 H b1 ht _ S => ?_
  exact q t B1 H b1 (.list (sqL ht) (pr_app (pr_up at_up b1 p1) (pr_up at_up b1 p2))) S
theorem z_slC {α : Type} {c : Cod α} {zs : List α} {hi : Int} (S : Sy e B H L) (h : At (.list c) K B (.ref p) zs) (h0 : 0 ≤ hi) (q : ∀ t B' H', Same B B' → At (.list c) K B' (.ref t) (zs.take hi.toNat) → Sy e B' H' L → Q (.ref t) H') : rSlU K (.ref p) none (some hi) H Q := by
  obtain ⟨v1, q1, p1⟩ := at_list_ref h
  refine y_slL (S.l q1) ?_
  have e : cutV v1 none (some hi) = v1.take hi.toNat := by
    unfold cutV HT.sIx
    simp
    split <;> omega
  rw [e]
  refine y_newI S fun t B1 H b1 ht _ S => ?_
  exact q t B1 H b1 (.list (sqL ht) (pr_take _ (pr_up at_up b1 p1))) S
def RevK (K : PySem.W.Frag) (Q : VK) : VK := fun x H1 => ∃ a xs, x = .ref a ∧ SqL K H1 a xs ∧ ∀ p, H1 p = none → Q (.ref p) (upd H1 p (.lst xs.reverse))
theorem y_rev {te : TE} {σ : L2.St} (h : te σ H (RevK K Q)) : tRevL K te σ H Q := h
theorem pr_rev {α β : Type} {F : α → β → Prop} : ∀ {l : List α} {m : List β}, Paired F l m → Paired F l.reverse m.reverse
  | _, _, .nil => .nil
  | _, _, .cons h t => by
    rw [List.reverse_cons, List.reverse_cons]
    exact pr_app (pr_rev t) (.cons h .nil)
theorem y_revC {α : Type} {c : Cod α} {zs : List α} (S : Sy e B H L) (h : At (.list c) K B (.ref p) zs) (q : ∀ t B' H', Same B B' → At (.list c) K B' (.ref t) zs.reverse → Sy e B' H' L → Q (.ref t) H') : RevK K Q (.ref p) H := by
  obtain ⟨v1, q1, p1⟩ := at_list_ref h
  refine ⟨p, _, rfl, S.l q1, ?_⟩
  refine y_newI S fun t B1 H b1 ht _ S => ?_
  exact q t B1 H b1 (.list (sqL ht) (pr_rev (pr_up at_up b1 p1))) S
end
theorem pe_revK {K : PySem.W.Frag} (hK : X.K = K) {e : Expr} {te : TE} {k : Nat} {p1 p2 p3 pos : Pos} (he : PE X e te) : PE X (.Subscript e (.Slice none none (some (.UnaryOp .USub (.Constant (.int 1) k p1) p2)) p3) pos) (tRevL K te) := hK ▸ pe_revL he
/-! ### lists of three kinds of things -/
theorem eqv_cons {d e : PyData} {ds es : List PyData} : PyData.eqvAll (d :: ds) (e :: es) = (PyData.eqv d e && PyData.eqvAll ds es) := by simp [PyData.eqvAll]
def Cod.lst3 {α β γ : Type} (c : Cod α) (d : Cod β) (f : Cod γ) : Cod (α × β × γ) := ⟨fun x => .list [c.enc x.1, d.enc x.2.1, f.enc x.2.2], max c.dep (max d.dep f.dep) + 1, fun x => by simp [PyData.plain, PyData.plainAll, c.pl, d.pl, f.pl], fun x => by
    have h1 := c.dp x.1
    have h2 := d.dp x.2.1
    have h3 := f.dp x.2.2
    simp only [PyData.depth, PyData.depthAll]
    omega, fun x y => by
    obtain ⟨x1, x2, x3⟩ := x
    obtain ⟨y1, y2, y3⟩ := y
    simp [PyData.eqv, PyData.eqvAll, c.eq, d.eq, f.eq]⟩
def Cod.optL : Cod (Option (List Int)) := ⟨Cod.optE (.list .int), 2, fun x => by
    cases x with
    | none => rfl
    | some l => exact (Cod.list .int).pl l, fun x => by
    cases x with
    | none => simp [Cod.optE, PyData.depth]
    | some l => exact (Cod.list .int).dp l, fun x y => by
    cases x with
    | none =>
      cases y with
      | none => simp [Cod.optE, PyData.eqv]
      | some l => simp [Cod.optE, PyData.eqv, Cod.list]
    | some l =>
      cases y with
      | none => simp [Cod.optE, PyData.eqv, Cod.list]
      | some m => 
        rw [Option.some.injEq]
        exact (Cod.list .int).eq l m⟩

/-! ### a list of the base, lent to be changed, and given back as it was -/
def lessA (B : Hp) (a : Addr) : Hp := fun x => if x = a then none else B x
theorem lessA_same {B : Hp} {a : Addr} : lessA B a a = none := if_pos rfl
theorem lessA_ne {B : Hp} {a x : Addr} (h : x ≠ a) : lessA B a x = B x := if_neg h
theorem Sy.unfreeze {e : En} {B H : Hp} {L : Led} {a : Addr} {xs : List V} (S : Sy e B H L) (hB : B a = some (.lst xs)) : Sy ⟨a :: e.M, e.Z, lessA e.B a, e.H⟩ (lessA B a) H ((a, .lst xs) :: L) := by
  have hH : H a = some (.lst xs) := S.bh.lst hB
  refine ⟨fun x o q => ?_, fun x o q => ?_, fun p hp => ?_, ?_, fun x o h1 h2 q => ?_, fun x r1 r2 => ?_, S.there, S.zin, fun x o q hk => ?_, fun p hp => ?_⟩
  · have q : lessA e.B a x = some o := q
    have ne : x ≠ a := fun z => by subst z; rw [lessA_same] at q; cases q
    rw [lessA_ne ne] at q ⊢
    exact S.b0 x o q
  · have ne : x ≠ a := fun z => by subst z; rw [lessA_same] at q; cases q
    rw [lessA_ne ne] at q
    exact S.bh x o q
  · rcases List.mem_cons.mp hp with rfl | hp
    · refine ⟨hH, lessA_same, .inl List.mem_cons_self, fun z => ?_⟩
      obtain ⟨q, hq, e1⟩ := List.mem_map.mp z
      have := S.zin q hq
      rw [show q.1 = a from e1, hH] at this
      cases this
    · obtain ⟨q1, q2, q3, q4⟩ := S.led p hp
      have ne : p.1 ≠ a := fun z => by rw [z, hB] at q2; cases q2
      exact ⟨q1, by rw [lessA_ne ne]; exact q2, q3.imp (List.mem_cons_of_mem _) id, q4⟩
  · rw [List.map_cons]
    refine List.nodup_cons.mpr ⟨fun hm => ?_, S.nd⟩
    obtain ⟨q, hq, e1⟩ := List.mem_map.mp hm
    have := (S.led q hq).2.1
    rw [show q.1 = a from e1, hB] at this
    cases this
  · exact S.keep x o (fun z => h1 (List.mem_cons_of_mem _ z)) h2 q
  · by_cases ha : x = a
    · subst ha; exact .inl lessA_same
    · have r2 : lessA e.B a x = Option.none := r2
      rw [lessA_ne ha] at r2
      rw [lessA_ne ha]
      exact S.fresh x r1 r2
  · have ne : x ≠ a := fun z => by subst z; rw [lessA_same] at q; cases q
    rw [lessA_ne ne] at q
    exact S.lk x o q hk
  · rcases List.mem_cons.mp hp with rfl | hp
    · intro _ z; cases z
    · exact S.nt p hp
theorem Sy.refreeze {e : En} {B B' H H' : Hp} {L L' : Led} {a : Addr} {xs : List V} (S : Sy e B H L) (hB : B a = some (.lst xs)) (b : Same (lessA B a) B') (T : Sy ⟨a :: e.M, e.Z, lessA e.B a, e.H⟩ B' H' ((a, .lst xs) :: L')) : Same B (upd B' a (.lst xs)) ∧ Sy e (upd B' a (.lst xs)) H' L' := by
  have hH : H a = some (.lst xs) := S.bh.lst hB
  obtain ⟨t1, t2, t3, t4⟩ := T.led (a, .lst xs) List.mem_cons_self
  have hnd := List.nodup_cons.mp (show (a :: L'.map (·.1)).Nodup from T.nd)
  have sb : Same B (upd B' a (.lst xs)) := fun x o q => by
    by_cases ha : x = a
    · subst ha; rw [hB] at q; cases q; exact upd_same
    · rw [upd_ne ha]; exact b x o (by rw [lessA_ne ha]; exact q)
  refine ⟨sb, S.b0.trans sb, fun x o q => ?_, fun p hp => ?_, hnd.2, fun x o h1 h2 q => ?_, fun x r1 r2 => ?_, T.there, T.zin, fun x o q hk => ?_, fun p hp => T.nt p (List.mem_cons_of_mem _ hp)⟩
  · by_cases ha : x = a
    · subst ha; rw [upd_same] at q; cases q; exact .inl t1
    · rw [upd_ne ha] at q; exact T.bh x o q
  · obtain ⟨q1, q2, q3, q4⟩ := T.led p (List.mem_cons_of_mem _ hp)
    have ne : p.1 ≠ a := fun z => hnd.1 (List.mem_map.mpr ⟨p, hp, z⟩)
    exact ⟨q1, by rw [upd_ne ne]; exact q2, q3.imp (fun z => (List.mem_cons.mp z).resolve_left ne) id, q4⟩
  · by_cases ha : x = a
    · subst ha
      have r := S.keep x o h1 h2 q
      rw [hH] at r; cases r
      exact t1
    · exact T.keep x o (fun z => (List.mem_cons.mp z).elim ha h1) h2 q
  · by_cases ha : x = a
    · subst ha
      rcases S.fresh x r1 r2 with z | ⟨_, z⟩ <;> (rw [hB] at z; cases z)
    · rw [upd_ne ha]
      exact T.fresh x r1 (by show lessA e.B a x = Option.none; rw [lessA_ne ha]; exact r2)
  · by_cases ha : x = a
    · subst ha; rw [upd_same] at q; cases q; exact hk.elim
    · rw [upd_ne ha] at q; exact T.lk x o q hk
end
end Y
namespace K13
open PySem PySem.Spec PyProof.Rows L2 Y
local macro_rules | `(tactic| walk_at "asm") => `(tactic| assumption)
local macro_rules | `(tactic| walk_at "up") => `(tactic| first
  | assumption
  | exact Same.refl _
  | ((refine' Same.trans ?_ (by assumption)); walk_at "up"))
local macro_rules | `(tactic| walk_at "led") => `(tactic| first
  | exact Sy.at (by assumption) 0 rfl
  | exact Sy.at (by assumption) 1 rfl
  | exact Sy.at (by assumption) 2 rfl
  | exact Sy.at (by assumption) 3 rfl
  | exact Sy.at (by assumption) 4 rfl
  | exact Sy.at (by assumption) 5 rfl
  | exact Sy.at (by assumption) 6 rfl
  | exact Sy.at (by assumption) 7 rfl
  | exact Sy.at (by assumption) 8 rfl
  | exact Sy.at (by assumption) 9 rfl
  | exact Sy.at (by assumption) 10 rfl
  | exact Sy.at (by assumption) 11 rfl)
/- a fact of data, lifted -/
local macro_rules | `(tactic| walk_at "at") => `(tactic| first
  | assumption
  | exact At.int
  | exact At.str
  | exact At.bool
  | ((refine' At.up ?hs ?hf); (case hf => assumption); (case hs => walk_at "up")))
local macro_rules | `(tactic| walk_at "pr") => `(tactic| first
  | assumption
  | ((refine' pr_up at_up ?hs ?hf); (case hf => assumption); (case hs => walk_at "up")))
local macro_rules | `(tactic| walk_at "var") => `(tactic| ((with_reducible refine' y_var ?hv ?_); (case hv => exact rfl)))
/- facts of lists: the ledger, then the base -/
local macro_rules | `(tactic| walk_at "sq") => `(tactic| first
  | exact sqL (by walk_at "led")
  | exact Sy.l (by assumption) (by assumption)
  | exact Sy.l (by assumption) (sqL (by assumption))
  | ((refine' Sy.l (by assumption) (up_l ?hs ?hf)); (case hf => assumption); (case hs => walk_at "up"))
  | ((refine' Sy.l (by assumption) (sqL (up_o ?hs ?hf))); (case hf => assumption); (case hs => walk_at "up")))
local macro_rules | `(tactic| walk_at "sqt") => `(tactic| first
  | exact Sy.t (by assumption) (by assumption)
  | exact Sy.t (by assumption) (sqT (by assumption))
  | ((refine' Sy.t (by assumption) (up_t ?hs ?hf)); (case hf => assumption); (case hs => walk_at "up"))
  | ((refine' Sy.t (by assumption) (sqT (up_o ?hs ?hf))); (case hf => assumption); (case hs => walk_at "up")))
local macro_rules | `(tactic| walk_at "y") => `(tactic| first
  | with_reducible refine y_seq ?_
  | with_reducible refine y_asg ?_
  | with_reducible refine y_gname ?_
  | with_reducible refine y_ret ?_
  | with_reducible refine y_drop ?_
  | with_reducible refine y_next ?_
  | walk_at "var"
  | with_reducible refine y_c ?_
  | with_reducible refine y_op ?_
  | with_reducible refine y_un ?_
  | with_reducible refine y_nil ?_
  | with_reducible refine y_cons ?_
  | with_reducible refine y_call ?_
  | with_reducible refine y_cb ?_
  | with_reducible refine y_test ?_
  | with_reducible refine y_tB ?_
  | with_reducible refine y_blK ?_
  | with_reducible refine y_and ?_
  | with_reducible refine y_or ?_
  | with_reducible refine y_not ?_
  | with_reducible refine y_andV ?_
  | with_reducible refine y_andK ?_
  | with_reducible refine y_orV ?_
  | with_reducible refine y_orK ?_
  | with_reducible refine y_notV ?_
  | with_reducible refine y_notK ?_
  | with_reducible refine y_chain ?_
  | with_reducible refine y_chK ?_
  | with_reducible refine y_ifE ?_
  | with_reducible refine y_addI ?_
  | with_reducible refine z_addI ?_
  | with_reducible refine y_subI ?_
  | with_reducible refine y_negI ?_
  | with_reducible refine y_ltI ?_
  | with_reducible refine y_leI ?_
  | with_reducible refine y_gtI ?_
  | with_reducible refine y_geI ?_
  | with_reducible refine z_eqI ?_
  | with_reducible refine z_neI ?_
  | with_reducible refine z_eqS ?_
  | with_reducible refine z_neS ?_
  | with_reducible refine z_neNI ?_
  | with_reducible refine z_neNN ?_
  | with_reducible refine z_neB ?_
  | with_reducible refine z_eqB ?_
  | with_reducible refine z_inSg ?_
  | with_reducible refine z_notInSg ?_
  | ((with_reducible refine' y_ixDS ?hq ?hl ?_); (case hq => walk_at "led"); (case hl => exact rfl))
  | with_reducible refine y_itup ?_
  | ((with_reducible refine' y_tupK ?hq ?_); (case hq => walk_at "sqt"))
  | with_reducible refine y_pcons ?_
  | with_reducible refine y_pnil ?_
  | with_reducible refine y_fld ?_
  | ((with_reducible refine' y_fldK ?hq ?hl ?_); (case hq => walk_at "led"); (case hl => exact rfl))
  | with_reducible refine y_sfld ?_
  | with_reducible refine y_afld ?_
  | with_reducible refine y_meth ?_
  | with_reducible refine y_methN ?_
  | ((with_reducible refine' y_mthK ?hq ?hl ?_); (case hq => walk_at "led"); (case hl => exact rfl))
  | ((with_reducible refine' y_mthNK ?hq ?hl ?_); (case hq => walk_at "led"); (case hl => exact rfl))
  | with_reducible refine y_make ?_
  | with_reducible refine y_makeN ?_
  | with_reducible refine y_m0 ?_
  | with_reducible refine y_m1 ?_
  | with_reducible refine And.intro ⟨_, rfl⟩ ?_
  | ((with_reducible refine' y_lenS ?hq ?_); (case hq => exact lenOk (by first | omega | decide)))
  | ((with_reducible refine' y_slS ?hq ?_); (case hq => exact lenOk (by first | omega | decide)))
  | ((with_reducible refine' y_addS ?hq ?_); (case hq => exact lenOk (by first | omega | decide)))
  | ((with_reducible refine' z_addS ?hq ?_); (case hq => exact lenOk (by first | omega | decide)))
  | with_reducible refine y_rev ?_
  | with_reducible refine y_maxL ?_
  | with_reducible refine y_isN0 ?_
  | with_reducible refine y_isN1 ?_
  | with_reducible refine y_isN2 ?_
  | with_reducible refine y_notN0 ?_
  | with_reducible refine y_notN1 ?_
  | with_reducible refine y_notN2 ?_
  | with_reducible refine y_true ?_
  | with_reducible refine y_false ?_
  | with_reducible refine y_notT ?_
  | with_reducible refine y_notF ?_
  | with_reducible refine y_max2 ?_
  | with_reducible refine y_min2 ?_
  | with_reducible refine y_gsub ?_
  | with_reducible refine y_for ?_
  | with_reducible refine y_lc ?_
  | with_reducible refine y_tup ?_
  | with_reducible refine y_lst ?_
  | with_reducible refine y_bm ?_
  | with_reducible refine y_bm0 ?_
  | with_reducible refine y_sl ?_
  | with_reducible refine y_part ?_
  | with_reducible refine y_ptK ?_
  | with_reducible refine y_nopart ?_
  | ((with_reducible refine' y_mulZ ?hc ?_); (case hc => first | exact .inl ⟨by omega, by omega⟩ | exact .inr ⟨by omega, by omega⟩))
  | with_reducible refine y_exF ?_
  | with_reducible refine y_ost ?_
  | with_reducible refine y_mkX ?_
  | ((with_reducible refine' y_mulI ?hc ?_); (case hc => first | exact .inl ⟨by omega, by omega⟩ | exact .inr ⟨by omega, by omega⟩))
  | ((with_reducible refine' y_modI ?hc ?_); (case hc => omega))
  | ((with_reducible refine' y_ixL ?hq ?ha ?_); (case hq => walk_at "sq"); (case ha => exact rfl))
  | ((with_reducible refine' y_ixT ?hq ?ha ?_); (case hq => walk_at "sqt"); (case ha => exact rfl))
  | ((with_reducible refine' y_lenL ?hq ?_); (case hq => walk_at "sq"))
  | ((with_reducible refine' y_lenT ?hq ?_); (case hq => walk_at "sqt"))
  | with_reducible refine y_dc ?_
  | with_reducible refine y_par ?_
  | with_reducible refine y_parK ?_
  | with_reducible refine y_par3 ?_
  | with_reducible refine y_par3K ?_
  | with_reducible refine y_setd ?_
  | with_reducible refine y_frz ?_
  | with_reducible refine y_sortk ?_
  | with_reducible refine y_izip ?_
  | with_reducible refine y_ienum ?_
  | with_reducible refine y_leS ?_
  | with_reducible refine y_ltS ?_
  | ((with_reducible refine' y_gtup ?hq ?hl ?_); (case hq => walk_at "sqt"); (case hl => exact rfl))
  | with_reducible refine y_dnewT ?_
  | with_reducible refine y_dnew ?_
  | with_reducible refine y_callN ?_
  | with_reducible refine y_callNK rfl rfl ?_
  | with_reducible refine y_ikeys ?_
  | with_reducible refine y_gcons ?_
  | with_reducible refine y_gnil ?_
  | with_reducible refine y_irng3 ?_
  | with_reducible refine z_neIN ?_
  | with_reducible refine y_intB ?_
  | with_reducible refine y_intI ?_
  | with_reducible refine y_ivals ?_
  | with_reducible refine y_iitems ?_
  | with_reducible refine y_yes ?_
  | ((with_reducible refine And.intro ?hw ?_); (case hw => (show wipe _ _ = wipe _ _); exact rfl))
  | with_reducible refine y_irng1 ?_
  | with_reducible refine y_irng2 ?_
  | with_reducible refine y_ilist ?_
  | with_reducible refine y_istr ?_
  | with_reducible refine y_strK ?_
  | ((with_reducible refine' y_rngK ?h1 ?h2 ?_); (case h1 => omega); (case h2 => omega))
  | ((with_reducible refine' y_rngK2 ?h1 ?h2 ?h3 ?h4 ?_); (case h1 => omega); (case h2 => omega); (case h3 => omega); (case h4 => omega))
  | ((with_reducible refine' y_lstK ?hq ?_); (case hq => walk_at "sq"))
  | ((with_reducible refine And.intro (lenOk ?hl) ?_); (case hl => exact Nat.le_of_ble_eq_true rfl))
  | ((with_reducible refine' And.intro (tyL ?hq) ?_); (case hq => walk_at "led")))
local macro_rules | `(tactic| walk_at "yy") => `(tactic| repeat (first | walk_at "y" | with_reducible refine y_ifS ?_))
/- the walk ahead of an if -/
local macro_rules | `(tactic| walk_at "yn") => `(tactic| repeat walk_at "y")

section
variable {P : Program} {w : World} {K : PySem.W.Frag} {mg : Str → Option Value} {base : Heap}
def topS (i : Nat) : Stmt := PySem.Challenge.pw_slotkeep_k13_long_lists_of_dealings.main.body.getD i (.Pass ⟨0, 0, 0, 0⟩)
abbrev s_asks : Stmt := topS 1
theorem sc_asks : FnScope ["row", "key", "reads", "ranges", "low", "high"] ["row", "key"] (defScope s_asks) := ⟨rfl, rfl, rfl, by decide +kernel, rfl, by decide +kernel, by decide +kernel⟩
abbrev s_place_of : Stmt := topS 2
theorem sc_place_of : FnScope ["row"] ["row"] (defScope s_place_of) := ⟨rfl, rfl, rfl, by decide +kernel, rfl, by decide +kernel, by decide +kernel⟩
abbrev s_writers : Stmt := topS 3
theorem sc_writers : FnScope ["dealings", "found", "row", "key"] ["dealings"] (defScope s_writers) := ⟨rfl, rfl, rfl, by decide +kernel, rfl, by decide +kernel, by decide +kernel⟩
abbrev s_reading_ties : Stmt := topS 4
theorem sc_reading_ties : FnScope ["row", "line", "found", "ahead", "behind", "one"] ["row", "line"] (defScope s_reading_ties) := ⟨rfl, rfl, rfl, by decide +kernel, rfl, by decide +kernel, by decide +kernel⟩
abbrev s_ties : Stmt := topS 5
theorem sc_ties : FnScope ["dealings", "found", "key", "line", "one", "other", "row", "tie"] ["dealings"] (defScope s_ties) := ⟨rfl, rfl, rfl, by decide +kernel, rfl, by decide +kernel, by decide +kernel⟩
abbrev s_behind_of : Stmt := topS 6
theorem sc_behind_of : FnScope ["dealings", "found", "one", "other", "row"] ["dealings"] (defScope s_behind_of) := ⟨rfl, rfl, rfl, by decide +kernel, rfl, by decide +kernel, by decide +kernel⟩
abbrev s_ring : Stmt := topS 7
theorem sc_ring : FnScope ["dealings", "behind", "left", "many", "row", "at", "one", "other"] ["dealings"] (defScope s_ring) := ⟨rfl, rfl, rfl, by decide +kernel, rfl, by decide +kernel, by decide +kernel⟩
abbrev s_order : Stmt := topS 8
theorem sc_order : FnScope ["dealings", "behind", "row", "places", "one", "lacks", "others", "other", "may"] ["dealings"] (defScope s_order) := ⟨rfl, rfl, rfl, by decide +kernel, rfl, by decide +kernel, by decide +kernel⟩
abbrev s_is_order : Stmt := topS 9
theorem sc_is_order : FnScope ["dealings", "row", "places", "one", "at", "other"] ["dealings", "row"] (defScope s_is_order) := ⟨rfl, rfl, rfl, by decide +kernel, rfl, by decide +kernel, by decide +kernel⟩
abbrev s_l_cell_at : Stmt := topS 11
theorem sc_l_cell_at : FnScope ["script", "k"] ["script", "k"] (defScope s_l_cell_at) := ⟨rfl, rfl, rfl, by decide +kernel, rfl, by decide +kernel, by decide +kernel⟩
abbrev s_l_stir : Stmt := topS 12
theorem sc_l_stir : FnScope ["seed", "turn", "number"] ["seed", "turn"] (defScope s_l_stir) := ⟨rfl, rfl, rfl, by decide +kernel, rfl, by decide +kernel, by decide +kernel⟩
abbrev s_l_well : Stmt := topS 13
theorem sc_l_well : FnScope ["cell", "k", "seed"] ["cell", "k"] (defScope s_l_well) := ⟨rfl, rfl, rfl, by decide +kernel, rfl, by decide +kernel, by decide +kernel⟩
abbrev s_l_draw : Stmt := topS 14
theorem sc_l_draw : FnScope ["well", "many", "taken"] ["well", "many"] (defScope s_l_draw) := ⟨rfl, rfl, rfl, by decide +kernel, rfl, by decide +kernel, by decide +kernel⟩
abbrev s_l_name : Stmt := topS 15
theorem sc_l_name : FnScope ["k", "letters"] ["k"] (defScope s_l_name) := ⟨rfl, rfl, rfl, by decide +kernel, rfl, by decide +kernel, by decide +kernel⟩
abbrev s_l_in_row : Stmt := topS 16
theorem sc_l_in_row : FnScope ["many", "rows", "k"] ["many"] (defScope s_l_in_row) := ⟨rfl, rfl, rfl, by decide +kernel, rfl, by decide +kernel, by decide +kernel⟩
abbrev s_l_reading_next : Stmt := topS 17
theorem sc_l_reading_next : FnScope ["many", "rows", "k"] ["many"] (defScope s_l_reading_next) := ⟨rfl, rfl, rfl, by decide +kernel, rfl, by decide +kernel, by decide +kernel⟩
abbrev s_l_round : Stmt := topS 18
theorem sc_l_round : FnScope ["many", "rows", "k"] ["many"] (defScope s_l_round) := ⟨rfl, rfl, rfl, by decide +kernel, rfl, by decide +kernel, by decide +kernel⟩
abbrev s_l_readers : Stmt := topS 19
theorem sc_l_readers : FnScope ["well", "many", "rows", "k", "pairs", "stand", "reads", "writer"] ["well", "many"] (defScope s_l_readers) := ⟨rfl, rfl, rfl, by decide +kernel, rfl, by decide +kernel, by decide +kernel⟩
abbrev s_l_mixed : Stmt := topS 20
theorem sc_l_mixed : FnScope ["well", "rows", "found", "row"] ["well", "rows"] (defScope s_l_mixed) := ⟨rfl, rfl, rfl, by decide +kernel, rfl, by decide +kernel, by decide +kernel⟩
abbrev s_l_ordered : Stmt := topS 21
theorem sc_l_ordered : FnScope ["rows", "pairs", "found", "places", "one", "other", "turned", "k", "pair"] ["rows", "pairs", "found"] (defScope s_l_ordered) := ⟨rfl, rfl, rfl, by decide +kernel, rfl, by decide +kernel, by decide +kernel⟩
abbrev s_law : Stmt := topS 22
theorem sc_law : FnScope ["script", "well", "pick", "many", "rows", "pairs", "found", "row", "after", "k", "one"] ["script"] (defScope s_law) := ⟨rfl, rfl, rfl, by decide +kernel, rfl, by decide +kernel, by decide +kernel⟩
structure Tx (K : PySem.W.Frag) (mg : Str → Option Value) : Prop where
  F_asks : ∃ fd, FunD K "asks" "asks" (defArgs s_asks) (defBody s_asks) (defScope s_asks) [] [] (He.ga K "asks") fd
  g_asks : mg "asks" = some (.ref (He.ga K "asks"))
  F_place_of : ∃ fd, FunD K "place_of" "place_of" (defArgs s_place_of) (defBody s_place_of) (defScope s_place_of) [] [] (He.ga K "place_of") fd
  g_place_of : mg "place_of" = some (.ref (He.ga K "place_of"))
  F_writers : ∃ fd, FunD K "writers" "writers" (defArgs s_writers) (defBody s_writers) (defScope s_writers) [] [] (He.ga K "writers") fd
  g_writers : mg "writers" = some (.ref (He.ga K "writers"))
  F_reading_ties : ∃ fd, FunD K "reading_ties" "reading_ties" (defArgs s_reading_ties) (defBody s_reading_ties) (defScope s_reading_ties) [] [] (He.ga K "reading_ties") fd
  g_reading_ties : mg "reading_ties" = some (.ref (He.ga K "reading_ties"))
  F_ties : ∃ fd, FunD K "ties" "ties" (defArgs s_ties) (defBody s_ties) (defScope s_ties) [] [] (He.ga K "ties") fd
  g_ties : mg "ties" = some (.ref (He.ga K "ties"))
  F_behind_of : ∃ fd, FunD K "behind_of" "behind_of" (defArgs s_behind_of) (defBody s_behind_of) (defScope s_behind_of) [] [] (He.ga K "behind_of") fd
  g_behind_of : mg "behind_of" = some (.ref (He.ga K "behind_of"))
  F_ring : ∃ fd, FunD K "ring" "ring" (defArgs s_ring) (defBody s_ring) (defScope s_ring) [] [] (He.ga K "ring") fd
  g_ring : mg "ring" = some (.ref (He.ga K "ring"))
  F_order : ∃ fd, FunD K "order" "order" (defArgs s_order) (defBody s_order) (defScope s_order) [] [] (He.ga K "order") fd
  g_order : mg "order" = some (.ref (He.ga K "order"))
  F_is_order : ∃ fd, FunD K "is_order" "is_order" (defArgs s_is_order) (defBody s_is_order) (defScope s_is_order) [] [] (He.ga K "is_order") fd
  g_is_order : mg "is_order" = some (.ref (He.ga K "is_order"))
  F_l_cell_at : ∃ fd, FunD K "_law_cell_at" "_law_cell_at" (defArgs s_l_cell_at) (defBody s_l_cell_at) (defScope s_l_cell_at) [] [] (He.ga K "_law_cell_at") fd
  g_l_cell_at : mg "_law_cell_at" = some (.ref (He.ga K "_law_cell_at"))
  F_l_stir : ∃ fd, FunD K "_law_stir" "_law_stir" (defArgs s_l_stir) (defBody s_l_stir) (defScope s_l_stir) [] [] (He.ga K "_law_stir") fd
  g_l_stir : mg "_law_stir" = some (.ref (He.ga K "_law_stir"))
  F_l_well : ∃ fd, FunD K "_law_well" "_law_well" (defArgs s_l_well) (defBody s_l_well) (defScope s_l_well) [] [] (He.ga K "_law_well") fd
  g_l_well : mg "_law_well" = some (.ref (He.ga K "_law_well"))
  F_l_draw : ∃ fd, FunD K "_law_draw" "_law_draw" (defArgs s_l_draw) (defBody s_l_draw) (defScope s_l_draw) [] [] (He.ga K "_law_draw") fd
  g_l_draw : mg "_law_draw" = some (.ref (He.ga K "_law_draw"))
  F_l_name : ∃ fd, FunD K "_law_name" "_law_name" (defArgs s_l_name) (defBody s_l_name) (defScope s_l_name) [] [] (He.ga K "_law_name") fd
  g_l_name : mg "_law_name" = some (.ref (He.ga K "_law_name"))
  F_l_in_row : ∃ fd, FunD K "_law_in_row" "_law_in_row" (defArgs s_l_in_row) (defBody s_l_in_row) (defScope s_l_in_row) [] [] (He.ga K "_law_in_row") fd
  g_l_in_row : mg "_law_in_row" = some (.ref (He.ga K "_law_in_row"))
  F_l_reading_next : ∃ fd, FunD K "_law_reading_next" "_law_reading_next" (defArgs s_l_reading_next) (defBody s_l_reading_next) (defScope s_l_reading_next) [] [] (He.ga K "_law_reading_next") fd
  g_l_reading_next : mg "_law_reading_next" = some (.ref (He.ga K "_law_reading_next"))
  F_l_round : ∃ fd, FunD K "_law_round" "_law_round" (defArgs s_l_round) (defBody s_l_round) (defScope s_l_round) [] [] (He.ga K "_law_round") fd
  g_l_round : mg "_law_round" = some (.ref (He.ga K "_law_round"))
  F_l_readers : ∃ fd, FunD K "_law_readers" "_law_readers" (defArgs s_l_readers) (defBody s_l_readers) (defScope s_l_readers) [] [] (He.ga K "_law_readers") fd
  g_l_readers : mg "_law_readers" = some (.ref (He.ga K "_law_readers"))
  F_l_mixed : ∃ fd, FunD K "_law_mixed" "_law_mixed" (defArgs s_l_mixed) (defBody s_l_mixed) (defScope s_l_mixed) [] [] (He.ga K "_law_mixed") fd
  g_l_mixed : mg "_law_mixed" = some (.ref (He.ga K "_law_mixed"))
  F_l_ordered : ∃ fd, FunD K "_law_ordered" "_law_ordered" (defArgs s_l_ordered) (defBody s_l_ordered) (defScope s_l_ordered) [] [] (He.ga K "_law_ordered") fd
  g_l_ordered : mg "_law_ordered" = some (.ref (He.ga K "_law_ordered"))
  F_law : ∃ fd, FunD K "law" "law" (defArgs s_law) (defBody s_law) (defScope s_law) [] [] (He.ga K "law") fd
  g_law : mg "law" = some (.ref (He.ga K "law"))
  n_all : mg "all" = none
  n_any : mg "any" = none
  n_enumerate : mg "enumerate" = none
  n_len : mg "len" = none
  n_list : mg "list" = none
  n_min : mg "min" = none
  n_range : mg "range" = none
  n_set : mg "set" = none
  n_sorted : mg "sorted" = none
  n_zip : mg "zip" = none

def φ_stir : Ph := fun B vs L k => ∃ s t : Int, vs = [.int s, .int t] ∧ L = [] ∧ 0 ≤ s ∧ s < 2 ^ 200 ∧ 0 ≤ t ∧ t ≤ 2 ^ 101 ∧ ∀ c : Int, 0 ≤ c → k B (.int c) []
theorem fn_l_stir (T : Tx K mg) (fd : FuncData) (F : FunD K "_law_stir" "_law_stir" (defArgs s_l_stir) (defBody s_l_stir) (defScope s_l_stir) [] [] (He.ga K "_law_stir") fd) : FnOk P w K mg base CX0 1 (He.ga K "_law_stir") fd ["seed", "turn"] (spY φ_stir) := by
  refine fnM F sc_l_stir (fun B vs L k h => by obtain ⟨_, _, rfl, _⟩ := h; rfl) (fun cdv A outer s H vs Q E B L e hz he hr S h => ?_)
  obtain ⟨s0, t0, rfl, rfl, h1, h2, h3, h4, k⟩ := h
  refine ⟨_, (pss_cons (ps_set (i := 2) sc_l_stir.nd rfl (.inl rfl) (pe_op (op_addU (K := K) rfl) (pe_op op_mulZ (pe_op (op_addU (K := K) rfl) (pv 0) pe_int) pe_int) (pe_op op_mulZ (pe_op (op_addU (K := K) rfl) (pv 1) pe_int) pe_int)))
      (pss_one (ps_ret (pe_op op_modU (pe_op op_powU (pv 2) pe_int) pe_int)))), ?_⟩
  walk_at "yn"
  refine y_mulW (a := 201) (b := 100) (by omega) (by decide) (by decide) (by decide) (by decide) ?_
  walk_at "yn"
  refine y_mulW (a := 102) (b := 100) (by omega) (by decide) (by decide) (by decide) (by decide) ?_
  walk_at "yn"
  refine y_powI (pow_ok (b := 400) (by omega) (by decide) (by decide) (by decide) (by decide)) ?_
  walk_at "yn"
  exact k _ (Int.emod_nonneg _ (by decide)) _ S
theorem ok_l_stir (T : Tx K mg) : Ok P w K mg base 1 "_law_stir" ["seed", "turn"] (spY φ_stir) :=
  Ok.of T.F_l_stir T.g_l_stir (fun _ _ _ _ _ _ us hl => match us, hl with | [_, _], _ => rfl) (fn_l_stir T)
theorem y_stir {e : En} {B H : Hp} {L : Led} {Q : VK} {E : XK} {s t : Int} (S : Sy e B H L) (h1 : 0 ≤ s) (h2 : s < 2 ^ 200) (h3 : 0 ≤ t) (h4 : t ≤ 2 ^ 101) (k : ∀ c H', 0 ≤ c → Sy e B H' L → Q (.int c) H') : spY φ_stir [.int s, .int t] H Q E :=
  y_sp0 S ⟨s, t, rfl, rfl, h1, h2, h3, h4, fun c hc => fun H' S' => k c H' hc (S.back0 S')⟩
theorem fn_l_draw (T : Tx K mg) (fd : FuncData) (F : FunD K "_law_draw" "_law_draw" (defArgs s_l_draw) (defBody s_l_draw) (defScope s_l_draw) [] [] (He.ga K "_law_draw") fd) : FnOk P w K mg base CX0 2 (He.ga K "_law_draw") fd ["well", "many"] (spY φ_draw) := by
  refine fnM F sc_l_draw (fun B vs L k h => by obtain ⟨_, _, _, _, rfl, _⟩ := h; rfl) (fun cdv A outer s H vs Q E B L e hz he hr S h => ?_)
  obtain ⟨b, o, many, n, rfl, rfl, ⟨x, y, z, rfl, h1, h2, h3, h4⟩, h5, h6, k⟩ := h
  refine ⟨_, (pss_cons (ps_if (pt_cmpR (op_eqZ (K := K) rfl hr.units) (pe_ix (ix_U (K := K) rfl (hu_of hr)) (pv 0) pe_int (fun _ _ => rfl)) pe_int (nomark _))
      (pss_cons (ps_asg (pe_op (op_addU (K := K) rfl) (pe_ix (ix_U (K := K) rfl (hu_of hr)) (pv 0) pe_int (fun _ _ => rfl)) pe_int) (pg_sub (pv 0) pe_int (set_U (hu_of hr))))
      (pss_one (ps_asg (pe_callO (ok_l_stir (K := K) T) hr (by rfl) (pa_cons (pe_ix (ix_U (K := K) rfl (hu_of hr)) (pv 0) pe_int (fun _ _ => rfl)) (pa_cons (pe_ix (ix_U (K := K) rfl (hu_of hr)) (pv 0) pe_int (fun _ _ => rfl)) pa_nil))) (pg_sub (pv 0) pe_int (set_U (hu_of hr))))))
      pss_nil)
      (pss_cons (ps_set (i := 2) sc_l_draw.nd rfl (.inl rfl) (pe_op op_modU (pe_ix (ix_U (K := K) rfl (hu_of hr)) (pv 0) pe_int (fun _ _ => rfl)) (pv 1)))
      (pss_cons (ps_asg (pe_op op_divU (pe_ix (ix_U (K := K) rfl (hu_of hr)) (pv 0) pe_int (fun _ _ => rfl)) (pv 1)) (pg_sub (pv 0) pe_int (set_U (hu_of hr))))
      (pss_one (ps_ret (pv 2)))))), ?_⟩
  walk_at "yn"
  walk_at "yy"
  refine y_ite (fun hc => ?_) (fun hc => ?_)
  · walk_at "yn"
    refine y_setL0 S rfl fun H S => ?_
    walk_at "yn"
    refine y_stir S h1 h2 (by omega) (by omega) fun c H hc S => ?_
    walk_at "yn"
    refine y_setL0 S rfl fun H S => ?_
    walk_at "yn"
    refine y_divI (wide_div h5 (b := 100) (by omega) (by decide) (by decide)) ?_
    walk_at "yn"
    refine y_setL0 S rfl fun H S => ?_
    walk_at "yn"
    exact k _ _ (Int.emod_nonneg _ (by omega)) (Int.emod_lt_of_pos _ h5) ⟨_, _, _, rfl, h1, h2, by omega, by omega⟩ _ S
  · walk_at "yn"
    refine y_divI (wide_div h5 (b := 100) (by omega) (by decide) (by decide)) ?_
    walk_at "yn"
    refine y_setL0 S rfl fun H S => ?_
    walk_at "yn"
    exact k _ _ (Int.emod_nonneg _ (by omega)) (Int.emod_lt_of_pos _ h5) ⟨_, _, _, rfl, h1, h2, by omega, by omega⟩ _ S
theorem ok_l_draw (T : Tx K mg) : Ok P w K mg base 2 "_law_draw" ["well", "many"] (spY φ_draw) :=
  Ok.of T.F_l_draw T.g_l_draw (fun _ _ _ _ _ _ us hl => match us, hl with | [_, _], _ => rfl) (fn_l_draw T)
theorem fn_l_cell_at (T : Tx K mg) (fd : FuncData) (F : FunD K "_law_cell_at" "_law_cell_at" (defArgs s_l_cell_at) (defBody s_l_cell_at) (defScope s_l_cell_at) [] [] (He.ga K "_law_cell_at") fd) : FnOk P w K mg base CX0 1 (He.ga K "_law_cell_at") fd ["script", "k"] (spY (φ_cell K)) := by
  refine fnM F sc_l_cell_at (fun B vs L k h => by obtain ⟨_, _, _, rfl, _⟩ := h; rfl) (fun cdv A outer s H vs Q E B L e hz he hr S h => ?_)
  obtain ⟨a, ns, i, rfl, rfl, hq, hi, k⟩ := h
  refine ⟨_, (pss_cons (ps_if (pt_cmpR op_ltU (pv 1) (pe_callB (call_lenU (K := K) rfl) (by rfl) T.n_len (by decide +kernel) (pa_cons (pv 0) pa_nil)) (nomark _))
      (pss_one (ps_ret (pe_ix (ix_U (K := K) rfl (hu_of hr)) (pv 0) (pv 1) (fun _ _ => rfl))))
      pss_nil)
      (pss_one (ps_ret pe_int))), ?_⟩
  walk_at "yn"
  walk_at "yy"
  refine y_ite (fun hc => ?_) (fun hc => ?_)
  · walk_at "yn"
    rw [List.length_map] at hc
    have h2 : i.toNat < ns.length := by omega
    exact y_ixL (S.l hq) (v := .int ns[i.toNat]) (atI_of hi (by simp [h2])) (k _ _ S)
  · walk_at "yn"
    exact k _ _ S
theorem ok_l_cell_at (T : Tx K mg) : Ok P w K mg base 1 "_law_cell_at" ["script", "k"] (spY (φ_cell K)) :=
  Ok.of T.F_l_cell_at T.g_l_cell_at (fun _ _ _ _ _ _ us hl => match us, hl with | [_, _], _ => rfl) (fn_l_cell_at T)
theorem fn_l_well (T : Tx K mg) (fd : FuncData) (F : FunD K "_law_well" "_law_well" (defArgs s_l_well) (defBody s_l_well) (defScope s_l_well) [] [] (He.ga K "_law_well") fd) : FnOk P w K mg base CX0 2 (He.ga K "_law_well") fd ["cell", "k"] (spY φ_bag) := by
  refine fnM F sc_l_well (fun B vs L k h => by obtain ⟨_, _, rfl, _⟩ := h; rfl) (fun cdv A outer s H vs Q E B L e hz he hr S h => ?_)
  obtain ⟨c, p, rfl, rfl, h0, h1, k⟩ := h
  refine ⟨_, (pss_cons (ps_set (i := 2) sc_l_well.nd rfl (.inl rfl) (pe_op (op_addU (K := K) rfl) (pe_op op_mulZ (pe_op op_modU (pv 0) pe_int) pe_int) (pv 1)))
      (pss_cons (ps_if (pt_cmpR op_geU (pv 0) (pe_op op_powU pe_int pe_int) (nomark _))
      (pss_one (ps_ret (pe_lst (pa_cons (pe_op op_subU (pv 0) (pe_op op_powU pe_int pe_int)) (pa_cons (pv 2) (pa_cons pe_int pa_nil))))))
      pss_nil)
      (pss_one (ps_ret (pe_lst (pa_cons (pe_callO (ok_l_stir (K := K) T) hr (by rfl) (pa_cons (pv 2) (pa_cons pe_int pa_nil))) (pa_cons (pv 2) (pa_cons pe_int pa_nil)))))))), ?_⟩
  walk_at "yn"
  have m1 := Int.emod_nonneg c (b := 7730990200000000000000000000000000000000229) (by decide)
  have m2 := Int.emod_lt_of_pos c (b := 7730990200000000000000000000000000000000229) (by decide)
  walk_at "yy"
  refine y_powI (pow_ok (b := 4) (by decide) (by decide) (by decide) (by decide) (by decide)) ?_
  walk_at "yy"
  refine y_ite (fun hc => ?_) (fun hc => ?_)
  · walk_at "yn"
    refine y_powI (pow_ok (b := 4) (by decide) (by decide) (by decide) (by decide) (by decide)) ?_
    walk_at "yn"
    refine y_newM S fun q H h2 S => ?_
    walk_at "yn"
    exact k _ _ ⟨_, _, _, rfl, by omega, by omega, by omega, by omega⟩ _ S
  · walk_at "yn"
    refine y_stir S (by omega) (by omega) (by omega) (by omega) fun c H hc S => ?_
    walk_at "yn"
    refine y_newM S fun q H h2 S => ?_
    walk_at "yn"
    exact k _ _ ⟨_, _, _, rfl, by omega, by omega, by omega, by omega⟩ _ S
theorem ok_l_well (T : Tx K mg) : Ok P w K mg base 2 "_law_well" ["cell", "k"] (spY φ_bag) :=
  Ok.of T.F_l_well T.g_l_well (fun _ _ _ _ _ _ us hl => match us, hl with | [_, _], _ => rfl) (fn_l_well T)

theorem len_le_of {α : Type} [DecidableEq α] : ∀ {l m : List α}, l.Nodup → (∀ x ∈ l, x ∈ m) → l.length ≤ m.length
  | [], _, _, _ => Nat.zero_le _
  | x :: l, m, nd, h => by
    obtain ⟨h1, h2⟩ := List.nodup_cons.mp nd
    have hx : x ∈ m := h x List.mem_cons_self
    have := len_le_of (m := m.erase x) h2 fun y hy => (List.mem_erase_of_ne (fun z => h1 (by rw [← z]; exact hy))).mpr (h y (List.mem_cons_of_mem _ hy))
    rw [List.length_erase_of_mem hx] at this
    have : 0 < m.length := List.length_pos_of_mem hx
    rw [List.length_cons]
    omega
theorem pr_strs : ∀ zs : List Str, Paired (At .str K B) (zs.map V.str) zs
  | [] => .nil
  | _ :: zs => .cons .str (pr_strs zs)

theorem map_any {α : Type} (f : α → Bool) : ∀ l : List α, (l.map f).any id = l.any f
  | [] => rfl
  | a :: l => by rw [List.map_cons, List.any_cons, List.any_cons, map_any f l]; rfl
def φ_asks (K : PySem.W.Frag) : Ph := fun B vs L k => ∃ (v : V) (key : Str) (r : Dl), vs = [v, .str key] ∧ L = [] ∧ At rowC K B v r ∧ r.ranges.length ≤ 100 ∧ ∀ B', Same B B' → k B' (.bl (asksB r key)) []
theorem fn_asks (T : Tx K mg) (fd : FuncData) (F : FunD K "asks" "asks" (defArgs s_asks) (defBody s_asks) (defScope s_asks) [] [] (He.ga K "asks") fd) : FnOk P w K mg base CX0 1 (He.ga K "asks") fd ["row", "key"] (spY (φ_asks K)) := by
  refine fnM F sc_asks (fun B vs L k h => by obtain ⟨_, _, _, rfl, _⟩ := h; rfl) (fun cdv A outer s H vs Q E B L e hz he hr S h => ?_)
  obtain ⟨v, key, r, rfl, rfl, h, hl, k⟩ := h
  refine ⟨_, (pss_cons (ps_par (i := 2) (j := 3) rfl sc_asks.nd rfl rfl (by decide) rfl rfl (pa_cons (pe_ix (ix_U (K := K) rfl (hu_of hr)) (pv 0) pe_int (fun _ _ => rfl)) (pa_cons (pe_ix (ix_U (K := K) rfl (hu_of hr)) (pv 0) pe_int (fun _ _ => rfl)) pa_nil)) (by rfl))
      (pss_one (ps_ret (pe_or (pe_cmpR (op_inZ (K := K) rfl hr.units) (pv 1) (pv 2) (by rfl)) (pe_one (pe_callB (cr_anyU (K := K) rfl rfl) (by rfl) T.n_any (by decide +kernel) (pa_cons (pe_lc (own := [("low", 4), ("high", 5)]) (by rfl) sc_asks.nd (pi_listK (K := K) rfl (pv 3)) (blkOk_by (own := [("low", 4), ("high", 5)]) (N := ["row", "key", "reads", "ranges", "low", "high"]) (sc := defScope s_asks) (by decide +kernel)) (fun _ _ _ _ _ => (pg_tupK (K := K) (n := 2) rfl rfl (pgs_cons (pg_name (i := 4) sc_asks.nd rfl (.inl rfl)) (pgs_cons (pg_name (i := 5) sc_asks.nd rfl (.inl rfl)) pgs_nil)))) (fun _ _ _ _ _ => pts_nil) (fun _ _ _ _ _ => (pe_chain op_leU op_ltU (pv 4) (pv 1) (pv 5)))) pa_nil))))))), ?_⟩
  walk_at "yn"
  obtain ⟨t, a4, a5, a6, rfl, ht, h4, h5, h6⟩ := at_row h
  obtain ⟨v5, q5, p5⟩ := at_list_ref h5
  walk_at "yn"
  refine y_inC .str S .str h4 (by decide) ?_
  refine y_orK ?_
  refine y_ite (fun hc => ?_) (fun hc => ?_)
  · have e1 : asksB r key = true := by unfold asksB; rw [decide_eq_true hc]; rfl
    rw [e1] at k
    exact k _ (Same.refl _) _ S
  · walk_at "yn"
    refine y_lcI (cx := .tup2 .str .str) (cy := .bool) (fun p => some (!decide (sg key < sg p.1) && decide (sg key < sg p.2))) S h5 (by omega) (fun i z x B7 H7 D acc Kp Kn hz b7 hx S kp kn => ?_) (fun D B7 H b7 hD7 hl S => ?_)
    · obtain ⟨tp, v1, v2, rfl, htp, hv1, hv2⟩ := at_tup2 hx
      have e1 := at_str hv1
      have e2 := at_str hv2
      subst e1 e2
      walk_at "yn"
      refine y_iteN (fun h => ?_) (fun h => ?_)
      · walk_at "yn"
        exact kp _ _ _ _ (by rw [decide_eq_false h]; rfl) (Same.refl _) .bool S
      · exact kp _ _ _ _ (by rw [decide_eq_true h]; rfl) (Same.refl _) .bool S
    · rw [fm_some] at hl
      obtain ⟨vb, qb, pb⟩ := at_list_ref hl
      have e1 := bools_of pb
      subst e1
      walk_at "yn"
      refine y_any (S.l qb) ?_
      rw [map_any]
      have e1 : asksB r key = r.ranges.any fun p => !decide (sg key < sg p.1) && decide (sg key < sg p.2) := by unfold asksB; rw [decide_eq_false hc]; rfl
      rw [e1] at k
      exact k _ b7 _ S
theorem ok_asks (T : Tx K mg) : Ok P w K mg base 1 "asks" ["row", "key"] (spY (φ_asks K)) :=
  Ok.of T.F_asks T.g_asks (fun _ _ _ _ _ _ us hl => match us, hl with | [_, _], _ => rfl) (fn_asks T)
def φ_place (K : PySem.W.Frag) : Ph := fun B vs L k => ∃ (v : V) (r : Dl), vs = [v] ∧ L = [] ∧ At rowC K B v r ∧ k B (.int r.place) []
theorem fn_place_of (T : Tx K mg) (fd : FuncData) (F : FunD K "place_of" "place_of" (defArgs s_place_of) (defBody s_place_of) (defScope s_place_of) [] [] (He.ga K "place_of") fd) : FnOk P w K mg base CX0 1 (He.ga K "place_of") fd ["row"] (spY (φ_place K)) := by
  refine fnM F sc_place_of (fun B vs L k h => by obtain ⟨_, _, rfl, _⟩ := h; rfl) (fun cdv A outer s H vs Q E B L e hz he hr S h => ?_)
  obtain ⟨v, r, rfl, rfl, h, k⟩ := h
  refine ⟨_, (pss_one (ps_ret (pe_ix (ix_U (K := K) rfl (hu_of hr)) (pv 0) pe_int (fun _ _ => rfl)))), ?_⟩
  walk_at "yn"
  obtain ⟨t, a4, a5, a6, rfl, ht, h4, h5, h6⟩ := at_row h
  walk_at "yn"
  exact k _ S
theorem ok_place_of (T : Tx K mg) : Ok P w K mg base 1 "place_of" ["row"] (spY (φ_place K)) :=
  Ok.of T.F_place_of T.g_place_of (fun _ _ _ _ _ _ us hl => match us, hl with | [_], _ => rfl) (fn_place_of T)
/-- a line of writers: the key, where its list stands, what it holds -/
structure Wl where
  key : Str
  at_ : Addr
  vs : List V
  ds : List Dl
abbrev wlD (ws : List Wl) : HO := .dK (ws.map fun p => (.inr p.key, .ref p.at_))
abbrev wlL (ws : List Wl) : Led := ws.map fun p => (p.at_, .lst p.vs)
/-- the lines, by what each key has -/
structure WlOk (K : PySem.W.Frag) (B : Hp) (f : Str → List Dl) (ws : List Wl) : Prop where
  nd : (ws.map (·.key)).Nodup
  mem : ∀ key, key ∈ ws.map (·.key) ↔ f key ≠ []
  ds : ∀ p ∈ ws, p.ds = f p.key
  pr : ∀ p ∈ ws, Paired (At rowC K B) p.vs p.ds
theorem WlOk.up {B B' : Hp} {f : Str → List Dl} {ws : List Wl} (h : WlOk K B f ws) (b : Same B B') : WlOk K B' f ws := ⟨h.nd, h.mem, h.ds, fun p hp => pr_up at_up b (h.pr p hp)⟩
theorem WlOk.congr {B : Hp} {f g : Str → List Dl} {ws : List Wl} (h : WlOk K B f ws) (e : ∀ x, f x = g x) : WlOk K B g ws := ⟨h.nd, fun key => by rw [← e]; exact h.mem key, fun p hp => by rw [← e]; exact h.ds p hp, h.pr⟩
theorem wl_val {ws : List Wl} {key : Str} : valV (ws.map fun p => ((.inr p.key : Key), V.ref p.at_)) (.inr key) = (ws.find? fun p => decide (p.key = key)).map fun p => V.ref p.at_ := by
  induction ws with
  | nil => rfl
  | cons p ws ih =>
    rw [List.map_cons, List.find?_cons]
    by_cases h : p.key = key
    · rw [valV_pos (show (Sum.inr p.key : Key) = .inr key by rw [h]), decide_eq_true h]
      rfl
    · rw [valV_neg (show ¬ (Sum.inr p.key : Key) = .inr key from fun z => h (Sum.inr.inj z)), ih, decide_eq_false h]
theorem WlOk.len {B : Hp} {f : Str → List Dl} {ws : List Wl} (h : WlOk K B f ws) {zs : List Str} (hz : ∀ key, f key ≠ [] → key ∈ zs) : ws.length ≤ zs.length := by
  have := len_le_of h.nd fun x hx => hz x ((h.mem x).mp hx)
  rw [List.length_map] at this
  exact this
/-- one more at a key that is there -/
theorem WlOk.more {B : Hp} {f : Str → List Dl} {ws : List Wl} {n : Nat} {p : Wl} {v : V} {r : Dl} (h : WlOk K B f ws) (hp : ws[n]? = some p) (hv : At rowC K B v r) :
    WlOk K B (fun x => if x = p.key then f x ++ [r] else f x) (ws.set n ⟨p.key, p.at_, p.vs ++ [v], p.ds ++ [r]⟩) := by
  have hn : n < ws.length := (List.getElem?_eq_some_iff.mp hp).1
  have ek : (ws.set n ⟨p.key, p.at_, p.vs ++ [v], p.ds ++ [r]⟩).map (·.key) = ws.map (·.key) := by
    rw [List.map_set]
    apply List.ext_getElem?
    intro i
    rw [List.getElem?_set]
    split
    · next e => subst e; rw [if_pos (by rw [List.length_map]; exact hn), List.getElem?_map, hp]; rfl
    · rfl
  have hpm : p ∈ ws := List.mem_of_getElem? hp
  refine ⟨by rw [ek]; exact h.nd, fun key => ?_, fun q hq => ?_, fun q hq => ?_⟩
  · rw [ek, h.mem key]
    by_cases c : key = p.key
    · rw [if_pos c]
      subst c
      have : f p.key ≠ [] := (h.mem _).mp (List.mem_map.mpr ⟨p, hpm, rfl⟩)
      simp [this]
    · rw [if_neg c]
  · obtain ⟨i, hi⟩ := List.mem_iff_getElem?.mp hq
    rw [List.getElem?_set] at hi
    split at hi
    · next e =>
      first | rw [if_pos hn] at hi | skip
      have e1 := Option.some.inj hi
      subst e1
      show p.ds ++ [r] = if p.key = p.key then f p.key ++ [r] else f p.key
      rw [if_pos rfl, h.ds p hpm]
    · next e =>
      have c : q.key ≠ p.key := fun c => by
        have e1 : (ws.map (·.key))[i]? = some q.key := by rw [List.getElem?_map, hi]; rfl
        have e2 : (ws.map (·.key))[n]? = some p.key := by rw [List.getElem?_map, hp]; rfl
        have e3 : i = n := (List.getElem?_inj (by rw [List.length_map]; exact (List.getElem?_eq_some_iff.mp hi).1) h.nd).mp (by rw [e1, e2, c])
        exact e e3.symm
      rw [if_neg c]
      exact h.ds q (List.mem_of_getElem? hi)
  · rcases List.mem_or_eq_of_mem_set hq with hq2 | rfl
    · exact h.pr q hq2
    · exact Paired.snoc (h.pr p hpm) hv
/-- a key that is new -/
theorem WlOk.new {B : Hp} {f : Str → List Dl} {ws : List Wl} {key : Str} {a : Addr} {v : V} {r : Dl} (h : WlOk K B f ws) (hk : key ∉ ws.map (·.key)) (hv : At rowC K B v r) :
    WlOk K B (fun x => if x = key then f x ++ [r] else f x) (ws ++ [⟨key, a, [v], [r]⟩]) := by
  have hf : f key = [] := Classical.byContradiction fun z => hk ((h.mem key).mpr z)
  refine ⟨?_, fun x => ?_, fun q hq => ?_, fun q hq => ?_⟩
  · rw [List.map_append]
    refine List.nodup_append.mpr ⟨h.nd, by simp, fun x hx y hy hxy => ?_⟩
    have : y = key := by simpa using hy
    rw [hxy, this] at hx
    exact hk hx
  · rw [List.map_append, List.mem_append, h.mem x]
    by_cases c : x = key
    · subst c; simp
    · rw [if_neg c]; simp [c]
  · rcases List.mem_append.mp hq with hq | hq
    · have c : q.key ≠ key := fun z => hk (by rw [← z]; exact List.mem_map.mpr ⟨q, hq, rfl⟩)
      rw [if_neg c]; exact h.ds q hq
    · have : q = ⟨key, a, [v], [r]⟩ := by simpa using hq
      subst this
      rw [if_pos rfl, hf]
      rfl
  · rcases List.mem_append.mp hq with hq | hq
    · exact h.pr q hq
    · have : q = ⟨key, a, [v], [r]⟩ := by simpa using hq
      subst this
      exact .cons hv .nil
theorem wl_set {ws : List Wl} {n : Nat} {p : Wl} {d : Addr} {v : V} {r : Dl} (hp : ws[n]? = some p) : ((d, wlD ws) :: wlL ws).set (n + 1) (p.at_, .lst (p.vs ++ [v])) = (d, wlD (ws.set n ⟨p.key, p.at_, p.vs ++ [v], p.ds ++ [r]⟩)) :: wlL (ws.set n ⟨p.key, p.at_, p.vs ++ [v], p.ds ++ [r]⟩) := by
  have hn : n < ws.length := (List.getElem?_eq_some_iff.mp hp).1
  rw [List.set_cons_succ]
  congr 1
  · unfold wlD
    rw [List.map_set]
    have : (ws.map fun p => ((.inr p.key : Key), V.ref p.at_)).set n (.inr p.key, .ref p.at_) = ws.map fun p => ((.inr p.key : Key), V.ref p.at_) := by
      apply List.ext_getElem?
      intro i
      rw [List.getElem?_set]
      split
      · next e => subst e; rw [if_pos (by rw [List.length_map]; exact hn), List.getElem?_map, hp]; rfl
      · rfl
    rw [this]
  · unfold wlL
    rw [List.map_set]
theorem find_ix {ws : List Wl} {key : Str} {p : Wl} (h : (ws.find? fun p => decide (p.key = key)) = some p) : ∃ n : Nat, ws[n]? = some p ∧ p.key = key := by
  have h1 := List.mem_of_find?_eq_some h
  obtain ⟨n, hn⟩ := List.mem_iff_getElem?.mp h1
  exact ⟨n, hn, of_decide_eq_true (by simpa using List.find?_some h)⟩
theorem find_no {ws : List Wl} {key : Str} (h : (ws.find? fun p => decide (p.key = key)) = none) : key ∉ ws.map (·.key) := fun z => by
  obtain ⟨p, hp, e⟩ := List.mem_map.mp z
  have := List.find?_eq_none.mp h p hp
  simp [e] at this
def φ_writers (K : PySem.W.Frag) : Ph := fun B vs L k => ∃ (a : Addr) (rows : List Dl) (zs : List Str), vs = [.ref a] ∧ L = [] ∧ At (.list rowC) K B (.ref a) rows ∧ rows.length ≤ 100 ∧ (∀ r ∈ rows, r.writes.length ≤ 100 ∧ ∀ y ∈ r.writes, y ∈ zs) ∧ zs.length ≤ 1000 ∧
  ∀ d (ws : List Wl) B', WlOk K B' (lineOf rows) ws → (∀ p ∈ ws, At (.list rowC) K B' (.ref p.at_) p.ds) → Same B B' → k B' (.ref d) [(d, wlD ws)]
theorem fn_writers (T : Tx K mg) (fd : FuncData) (F : FunD K "writers" "writers" (defArgs s_writers) (defBody s_writers) (defScope s_writers) [] [] (He.ga K "writers") fd) : FnOk P w K mg base CX0 4 (He.ga K "writers") fd ["dealings"] (spY (φ_writers K)) := by
  refine fnM F sc_writers (fun B vs L k h => by obtain ⟨_, _, _, rfl, _⟩ := h; rfl) (fun cdv A outer s H vs Q E B L e hz he hr S h => ?_)
  obtain ⟨a, rows, zs, rfl, rfl, h, hl, hw, hzl, k⟩ := h
  refine ⟨_, (pss_cons (ps_set (i := 1) sc_writers.nd rfl (.inl rfl) pe_dnewK)
      (pss_cons (ps_for PassesOwn.never rfl (pi_listK (K := K) rfl (pe_sortKeyO (ok_place_of (K := K) T) rfl rfl rfl rfl rfl hr (by rfl) T.n_sorted (by rfl) (pa_cons (pv 0) pa_nil))) (pg_name (i := 2) sc_writers.nd rfl (.inl rfl))
      (pss_one (ps_for PassesOwn.never rfl (pi_listK (K := K) rfl (pe_callB (call_sortedW (P := P) (w := w) (K := K) rfl rfl rfl rfl hr.units) (by rfl) T.n_sorted (by decide +kernel) (pa_cons (pe_callTy (cr_setM (P := P) (w := w) (K := K) rfl rfl rfl rfl) (by rfl) T.n_set (by decide +kernel) (pa_cons (pe_ix (ix_U (K := K) rfl (hu_of hr)) (pv 2) pe_int (fun _ _ => rfl)) pa_nil)) pa_nil))) (pg_name (i := 3) sc_writers.nd rfl (.inl rfl))
      (pss_one (ps_expr (pe_bmK (K := K) (id := "list.append") rfl (pe_bm PySem.F.plainAttrs_list PySem.F.slot_list_append PySem.F.type_list_append mt_append (pe_dsetd (pv 1) (pv 3) (pe_lst pa_nil) (by exact ⟨rfl, rfl, rfl, rfl⟩)) (pa_cons (pv 2) pa_nil))))))))
      (pss_one (ps_ret (pv 1))))), ?_⟩
  walk_at "yn"
  obtain ⟨rv, hrv, -⟩ := at_list_ref h
  refine y_newM S fun d H hd0 S => ?_
  walk_at "yn"
  refine y_sortKey (c := rowC) (·.place) S h (fun x z hz hx k hk => ⟨x, z, rfl, rfl, hx, hk⟩) fun ys H hys S => ?_
  refine y_newI S fun q B1 H bS hq hq0 S => ?_
  walk_at "yn"
  have hbp : At (.list rowC) K B1 (.ref q) (byPlace rows) := .list (sqL hq) (pr_up at_up bS hys)
  have hpm : (byPlace rows).Perm rows := List.mergeSort_perm _ _
  have hpl : (byPlace rows).length = rows.length := hpm.length_eq
  refine y_forC (c := rowC) (fun i σ H => ∃ (B2 : Hp) (ws : List Wl), (∃ (y2 y3 : Option V), σ = [some (.ref a), some (.ref d), y2, y3]) ∧ Same B1 B2 ∧ Sy e B2 H ((d, wlD ws) :: wlL ws) ∧ WlOk K B2 (fun key => ((byPlace rows).take i).filter fun r => decide (key ∈ r.writes)) ws ∧ ∀ p ∈ ws, e.H p.at_ = none) hbp ⟨B1, [], ⟨_, _, rfl⟩, Same.refl _, S, ⟨by simp, fun key => by simp, fun p hp => (by cases hp), fun p hp => (by cases hp)⟩, fun p hp => (by cases hp)⟩ (fun i σ H hi ⟨B2, ws, _, b2, S, _⟩ => ⟨B2, _, b2, S⟩) ?_ ?_
  · rintro i x z σ H hx hxz ⟨B2, ws, ⟨y2, y3, rfl⟩, b2, S, ok, hfr⟩
    have hzm : z ∈ rows := hpm.mem_iff.mp (List.mem_of_getElem? hx)
    obtain ⟨t, a4, a5, a6, rfl, ht, h4, h5, h6⟩ := at_row hxz
    obtain ⟨v6, q6, p6⟩ := at_list_ref h6
    have e1 := strs_of p6
    subst e1
    walk_at "yn"
    refine y_setStr (S.l (up_l b2 q6)) (by have := (hw z hzm).1; unfold scanBound; omega) fun ps hps => ?_
    replace S := S.newG (o := setO P w ps (firstK (z.writes.map .inr))) hps
    walk_at "yn"
    refine y_sortSet (upd_same) fun ys ynd hym _ => ?_
    refine y_newI S fun q2 B1 H bS hq2 hq20 S => ?_
    walk_at "yn"
    have hq2 : At cS K _ (.ref q2) ys := .list (sqL hq2) (pr_strs _)
    refine y_forC (c := .str) (fun j σ H => ∃ (B4 : Hp) (ws : List Wl), (∃ (y3 : Option V), σ = [some (.ref a), some (.ref d), some (.ref t), y3]) ∧ Same B1 B4 ∧ Sy e B4 H ((d, wlD ws) :: wlL ws) ∧ WlOk K B4 (fun key => (((byPlace rows).take i).filter fun r => decide (key ∈ r.writes)) ++ if key ∈ ys.take j then [z] else []) ws ∧ ∀ p ∈ ws, e.H p.at_ = none) hq2 ⟨_, ws, ⟨_, rfl⟩, Same.refl _, S, (ok.up bS).congr (fun key => by simp), hfr⟩ (fun j σ H hj ⟨B4, ws, _, b4, S, _⟩ => ⟨B4, _, b4, S⟩) ?_ ?_
    · clear S ok hfr
      rintro j x key σ H hkey hkx ⟨B4, ws, ⟨y3, rfl⟩, b4, S, ok, hfr⟩
      have e1 := at_str hkx
      subst e1
      have hrow : At rowC K B4 (.ref t) z := At.up (by walk_at "up") hxz
      have hnk : key ∉ ys.take j := fun zz => by
        have e2 : ys.take (j + 1) = ys.take j ++ [key] := by rw [List.take_add_one, hkey]; rfl
        have nd2 : (ys.take (j + 1)).Nodup := ynd.sublist (List.take_sublist _ _)
        rw [e2] at nd2
        exact (List.nodup_append.mp nd2).2.2 _ zz _ (List.mem_singleton_self _) rfl
      have step : ∀ x, (if x = key then ((((byPlace rows).take i).filter fun r => decide (x ∈ r.writes)) ++ if x ∈ ys.take j then [z] else []) ++ [z] else (((byPlace rows).take i).filter fun r => decide (x ∈ r.writes)) ++ if x ∈ ys.take j then [z] else []) = (((byPlace rows).take i).filter fun r => decide (x ∈ r.writes)) ++ if x ∈ ys.take (j + 1) then [z] else [] := fun x => by
        have e2 : ys.take (j + 1) = ys.take j ++ [key] := by rw [List.take_add_one, hkey]; rfl
        rw [e2]
        by_cases c : x = key
        · subst c
          rw [if_pos rfl, if_neg hnk, List.append_nil, if_pos (by simp)]
        · rw [if_neg c]
          have : (x ∈ ys.take j ++ [key]) ↔ x ∈ ys.take j := by simp [c]
          simp only [this]
      have hwsl : ws.length ≤ zs.length := ok.len fun x hx => by
        by_cases c : x ∈ ys.take j
        · exact (hw z hzm).2 x ((hym x).mp (List.mem_of_mem_take c))
        · rw [if_neg c, List.append_nil] at hx
          obtain ⟨r, hr⟩ := List.exists_mem_of_ne_nil _ hx
          obtain ⟨hr1, hr2⟩ := List.mem_filter.mp hr
          exact (hw r (hpm.mem_iff.mp (List.mem_of_mem_take hr1))).2 x (of_decide_eq_true hr2)
      walk_at "yn"
      refine y_setdK 0 S rfl ?_
      walk_at "yn"
      refine y_newM S fun z0 H hz00 S => ?_
      walk_at "yn"
      refine ⟨_, .inr key, S.at 1 rfl, rfl, lenLt (by rw [List.length_map]; omega), fun v hv => ?_, fun hn => ?_⟩
      · rw [wl_val] at hv
        obtain ⟨p, hp1, hp2⟩ := Option.map_eq_some_iff.mp hv
        obtain ⟨n, hpn, hpk⟩ := find_ix hp1
        subst hp2
        replace S := S.tail
        have hat : ((d, wlD ws) :: wlL ws)[n + 1]? = some (p.at_, .lst p.vs) := by
          rw [List.getElem?_cons_succ, List.getElem?_map, hpn]
          rfl
        refine ⟨tyL (S.at (n + 1) hat), ?_⟩
        walk_at "yn"
        have hpm2 : p ∈ ws := List.mem_of_getElem? hpn
        have hvl : p.vs.length = p.ds.length := (ok.pr p hpm2).length
        refine y_app (n + 1) S hat (lenLt (by
          rw [hvl, ok.ds p hpm2, List.length_append]
          have h1 := List.length_filter_le (fun r => decide (p.key ∈ r.writes)) ((byPlace rows).take i)
          have h2 : ((byPlace rows).take i).length ≤ (byPlace rows).length := by rw [List.length_take]; omega
          have h3 : (if p.key ∈ ys.take j then [z] else []).length ≤ 1 := by split <;> simp
          omega)) fun H S => ?_
        rw [wl_set (r := z) hpn] at S
        walk_at "yn"
        refine ⟨B4, _, ⟨_, rfl⟩, b4, S, (ok.more hpn hrow).congr (fun x => by rw [hpk]; exact step x), fun q hq => ?_⟩
        rcases List.mem_or_eq_of_mem_set hq with hq | rfl
        · exact hfr q hq
        · exact hfr p hpm2
      · rw [wl_val] at hn
        have hno := find_no (Option.map_eq_none_iff.mp hn)
        replace S := S.wr 1 rfl (.dK (putK (ws.map fun p => ((.inr p.key : Key), V.ref p.at_)) (.inr key) (.ref z0)))
        try simp only [List.set] at S
        refine ⟨tyL (S.at 0 rfl), ?_⟩
        walk_at "yn"
        refine y_app 0 S rfl (lenLt (by first | omega | (simp <;> omega))) fun H S => ?_
        try simp only [List.set] at S
        walk_at "yn"
        rw [putK_new _ (by rw [wl_val, hn])] at S
        have S2 : Sy e B4 H ((d, wlD (ws ++ [⟨key, z0, [.ref t], [z]⟩])) :: wlL (ws ++ [⟨key, z0, [.ref t], [z]⟩])) := S.perm (by
          unfold wlD wlL
          rw [List.map_append, List.map_append]
          refine (List.Perm.swap _ _ _).trans (.cons _ ?_)
          exact (List.perm_append_singleton _ _).symm)
        refine ⟨B4, _, ⟨_, rfl⟩, b4, S2, (ok.new hno hrow).congr step, fun q hq => ?_⟩
        rcases List.mem_append.mp hq with hq | hq
        · exact hfr q hq
        · have : q = ⟨key, z0, [.ref t], [z]⟩ := by simpa using hq
          subst this
          exact hz00
    · clear S ok hfr
      rintro σ H ⟨B4, ws, ⟨y3, rfl⟩, b4, S, ok, hfr⟩
      refine ⟨B4, ws, ⟨_, _, rfl⟩, by walk_at "up", S, ok.congr (fun x => ?_), hfr⟩
      have e2 : (byPlace rows).take (i + 1) = (byPlace rows).take i ++ [z] := by rw [List.take_add_one, hx]; rfl
      rw [e2, List.filter_append, List.take_length]
      by_cases c : x ∈ z.writes
      · rw [if_pos ((hym x).mpr c)]; simp [c]
      · rw [if_neg (fun zz => c ((hym x).mp zz))]; simp [c]
  · rintro σ H ⟨B2, ws, ⟨y2, y3, rfl⟩, b2, S, ok, hfr⟩
    rw [List.take_length] at ok
    walk_at "yn"
    obtain ⟨B3, b3, h3, S3⟩ := Sy.frzAll (N := wlL ws) (L := [(d, wlD ws)]) (S.perm (List.perm_append_singleton _ _).symm) (fun p hp => by
      obtain ⟨q, hq, rfl⟩ := List.mem_map.mp hp
      exact hfr q hq)
    exact k d ws B3 (ok.up b3) (fun p hp => .list (sqL (h3 _ (List.mem_map.mpr ⟨p, hp, rfl⟩))) (pr_up at_up b3 (ok.pr p hp))) (by walk_at "up") _ S3
theorem ok_writers (T : Tx K mg) : Ok P w K mg base 4 "writers" ["dealings"] (spY (φ_writers K)) :=
  Ok.of T.F_writers T.g_writers (fun _ _ _ _ _ _ us hl => match us, hl with | [_], _ => rfl) (fn_writers T)

def φ_reading (K : PySem.W.Frag) : Ph := fun B vs L k => ∃ (v : V) (l : Addr) (r : Dl) (ds : List Dl), vs = [v, .ref l] ∧ L = [] ∧ At rowC K B v r ∧ At (.list rowC) K B (.ref l) ds ∧ ds.length ≤ 200 ∧
  ∀ p ws B', B' p = some (.lst ws) → Paired (PairAt B') ws (readT r ds) → Same B B' → k B' (.ref p) []
theorem pr_ints2 {B : Hp} {vs : List V} {ns : List Int} (h : Paired (At .int K B) vs ns) : vs = ns.map V.int := ints_of h
theorem fn_reading_ties (T : Tx K mg) (fd : FuncData) (F : FunD K "reading_ties" "reading_ties" (defArgs s_reading_ties) (defBody s_reading_ties) (defScope s_reading_ties) [] [] (He.ga K "reading_ties") fd) : FnOk P w K mg base CX0 1 (He.ga K "reading_ties") fd ["row", "line"] (spY (φ_reading K)) := by
  refine fnM F sc_reading_ties (fun B vs L k h => by obtain ⟨_, _, _, _, rfl, _⟩ := h; rfl) (fun cdv A outer s H vs Q E B L e hz he hr S h => ?_)
  obtain ⟨v, l, r, ds, rfl, rfl, h, hl, hn, k⟩ := h
  refine ⟨_, (pss_cons (ps_set (i := 2) sc_reading_ties.nd rfl (.inl rfl) (pe_lst pa_nil))
      (pss_cons (ps_setLc (i := 3) (own := [("one", 5)]) (by rfl) sc_reading_ties.nd rfl rfl (sw_true rfl rfl rfl (by decide +kernel)) (pi_listK (K := K) rfl (pv 1)) (blkOk_by (own := [("one", 5)]) (N := ["row", "line", "found", "ahead", "behind", "one"]) (sc := defScope s_reading_ties) (by decide +kernel)) (fun _ _ _ _ _ => (pg_name (i := 5) sc_reading_ties.nd rfl (.inl rfl))) (fun _ _ _ _ _ => (pts_one (pt_cmpR op_leU (pe_ix (ix_U (K := K) rfl (hu_of hr)) (pv 5) pe_int (fun _ _ => rfl)) (pe_ix (ix_U (K := K) rfl (hu_of hr)) (pv 0) pe_int (fun _ _ => rfl)) (nomark _)))) (fun _ _ _ _ _ => (pe_ix (ix_U (K := K) rfl (hu_of hr)) (pv 5) pe_int (fun _ _ => rfl))))
      (pss_cons (ps_setLc (i := 4) (own := [("one", 5)]) (by rfl) sc_reading_ties.nd rfl rfl (sw_true rfl rfl rfl (by decide +kernel)) (pi_listK (K := K) rfl (pv 1)) (blkOk_by (own := [("one", 5)]) (N := ["row", "line", "found", "ahead", "behind", "one"]) (sc := defScope s_reading_ties) (by decide +kernel)) (fun _ _ _ _ _ => (pg_name (i := 5) sc_reading_ties.nd rfl (.inl rfl))) (fun _ _ _ _ _ => (pts_one (PW.pt (pw_and (pt_cmpR op_gtU (pe_ix (ix_U (K := K) rfl (hu_of hr)) (pv 5) pe_int (fun _ _ => rfl)) (pe_ix (ix_U (K := K) rfl (hu_of hr)) (pv 0) pe_int (fun _ _ => rfl)) (nomark _)) (pw_and1 (pt_cmpR (op_neZ (K := K) rfl hr.units) (pe_ix (ix_U (K := K) rfl (hu_of hr)) (pv 5) pe_int (fun _ _ => rfl)) (pe_ix (ix_U (K := K) rfl (hu_of hr)) (pv 0) pe_int (fun _ _ => rfl)) (nomark _))))))) (fun _ _ _ _ _ => (pe_ix (ix_U (K := K) rfl (hu_of hr)) (pv 5) pe_int (fun _ _ => rfl))))
      (pss_cons (ps_if (pt_cmpR (op_neZ (K := K) rfl hr.units) (pv 3) (pe_lst pa_nil) (nomark _))
      (pss_one (ps_expr (pe_bmK (K := K) (id := "list.append") rfl (pe_bm PySem.F.plainAttrs_list PySem.F.slot_list_append PySem.F.type_list_append mt_append (pv 2) (pa_cons (pe_tup (pa_cons (pe_ix (ix_U (K := K) rfl (hu_of hr)) (pv 3) (pe_un un_negU pe_int) (fun _ _ => rfl)) (pa_cons (pe_ix (ix_U (K := K) rfl (hu_of hr)) (pv 0) pe_int (fun _ _ => rfl)) pa_nil))) pa_nil)))))
      pss_nil)
      (pss_cons (ps_if (pt_cmpR (op_neZ (K := K) rfl hr.units) (pv 4) (pe_lst pa_nil) (nomark _))
      (pss_one (ps_expr (pe_bmK (K := K) (id := "list.append") rfl (pe_bm PySem.F.plainAttrs_list PySem.F.slot_list_append PySem.F.type_list_append mt_append (pv 2) (pa_cons (pe_tup (pa_cons (pe_ix (ix_U (K := K) rfl (hu_of hr)) (pv 0) pe_int (fun _ _ => rfl)) (pa_cons (pe_ix (ix_U (K := K) rfl (hu_of hr)) (pv 4) pe_int (fun _ _ => rfl)) pa_nil))) pa_nil)))))
      pss_nil)
      (pss_one (ps_ret (pv 2)))))))), ?_⟩
  walk_at "yn"
  obtain ⟨t, a4, a5, a6, rfl, ht, h4, h5, h6⟩ := at_row h
  obtain ⟨lv, hlv, -⟩ := at_list_ref hl
  refine y_newM S fun f H hf0 S => ?_
  walk_at "yn"
  refine y_lcI (cx := rowC) (cy := .int) (fun o => if decide (o.place ≤ r.stand) = true then some o.num else none) S hl (by omega) (fun i z x B7 H7 D acc Kp Kn hz b7 hx S kp kn => ?_) (fun D1 B1 H b1 hD1 hl1 S => ?_)
  · obtain ⟨t2, c4, c5, c6, rfl, ht2, -, -, -⟩ := at_row hx
    walk_at "yn"
    refine y_ite (fun hc => ?_) (fun hc => ?_)
    · walk_at "yn"
      exact kp _ _ _ _ (if_pos (decide_eq_true hc)) (Same.refl _) .int S
    · exact kn _ _ (if_neg (by simp; omega)) (Same.refl _) S
  rw [fm_ifm] at hl1
  have hl1 : At (.list .int) K B1 (.ref D1) (aheadN r ds) := hl1
  walk_at "yn"
  refine y_lcI (cx := rowC) (cy := .int) (fun o => if (decide (r.stand < o.place) && !decide (o.num = r.num)) = true then some o.num else none) S (hl.up b1) (by omega) (fun i z x B7 H7 D acc Kp Kn hz b7 hx S kp kn => ?_) (fun D2 B2 H b2 hD2 hl2 S => ?_)
  · obtain ⟨t2, c4, c5, c6, rfl, ht2, -, -, -⟩ := at_row hx
    walk_at "yn"
    refine y_ite (fun hc => ?_) (fun hc => ?_)
    · walk_at "yn"
      refine y_iteIN (fun hc2 => ?_) (fun hc2 => ?_)
      · walk_at "yn"
        exact kp _ _ _ _ (if_pos (by simp [hc, hc2])) (Same.refl _) .int S
      · exact kn _ _ (if_neg (by simp [hc2])) (Same.refl _) S
    · walk_at "yn"
      exact kn _ _ (if_neg (by simp [hc])) (Same.refl _) S
  rw [fm_ifm] at hl2
  have hl2 : At (.list .int) K B2 (.ref D2) (behindN r ds) := hl2
  obtain ⟨v1, q1, p1⟩ := at_list_ref (hl1.up b2)
  have e1 := ints_of p1
  subst e1
  obtain ⟨v2, q2, p2⟩ := at_list_ref hl2
  have e2 := ints_of p2
  subst e2
  walk_at "yn"
  refine y_cutS (R := fun σ H => ∃ (B3 : Hp) (ws : List V), (∃ (y5 : Option V), σ = [some (.ref t), some (.ref l), some (.ref f), some (.ref D1), some (.ref D2), y5]) ∧ Same B2 B3 ∧ Sy e B3 H [(f, .lst ws)] ∧ Paired (PairAt B3) ws ((aheadN r ds).getLast?.toList.map fun a => (a, r.num))) (fun nx' hnx => ?_) (fun σ H hR => ?_)
  · refine y_ifS ?_
    walk_at "yy"
    refine y_newM S fun q H hq0 S => ?_
    walk_at "yn"
    refine z_neE (S.l q1) (sqL (S.at 0 rfl)) ?_
    walk_at "yn"
    refine y_iteB (fun hc => ?_) (fun hc => ?_)
    · rcases snoc_cases (aheadN r ds) with he1 | ⟨m, x, he1⟩
      · rw [he1] at hc; simp at hc
      · walk_at "yn"
        refine y_ixL (v := .int x) (S.l q1) (by rw [he1, List.map_append]; exact atI_last _ _) ?_
        walk_at "yn"
        refine y_newI S fun t1 B1 H bS ht1 ht10 S => ?_
        walk_at "yn"
        replace S := S.tail
        refine y_app 0 S rfl (lenLt (by first | omega | (simp <;> omega))) fun H S => ?_
        try simp only [List.set] at S
        walk_at "yn"
        refine hnx _ _ ⟨_, _, ⟨_, rfl⟩, by walk_at "up", S, ?_⟩
        rw [he1, List.getLast?_concat]
        exact .cons ⟨t1, rfl, ht1⟩ .nil
    · walk_at "yn"
      refine hnx _ _ ⟨_, _, ⟨_, rfl⟩, Same.refl _, S.tail, ?_⟩
      have : aheadN r ds = [] := by
        cases he1 : aheadN r ds with
        | nil => rfl
        | cons x m => rw [he1] at hc; simp at hc
      rw [this]
      exact .nil
  clear S
  obtain ⟨B3, ws, ⟨y5, rfl⟩, b3, S, hp3⟩ := hR
  walk_at "yn"
  have hwl : ws.length ≤ 1 := by
    have e9 : ws.length = _ := hp3.length
    rw [List.length_map] at e9
    have : (aheadN r ds).getLast?.toList.length ≤ 1 := by cases (aheadN r ds).getLast? <;> simp
    omega
  refine y_cutS (R := fun σ H => ∃ (B4 : Hp) (ws : List V), (∃ (y5 : Option V), σ = [some (.ref t), some (.ref l), some (.ref f), some (.ref D1), some (.ref D2), y5]) ∧ Same B2 B4 ∧ Sy e B4 H [(f, .lst ws)] ∧ Paired (PairAt B4) ws (readT r ds)) (fun nx' hnx => ?_) (fun σ H hR => ?_)
  · refine y_ifS ?_
    walk_at "yy"
    refine y_newM S fun q H hq0 S => ?_
    walk_at "yn"
    refine z_neE (S.l (up_l b3 q2)) (sqL (S.at 0 rfl)) ?_
    walk_at "yn"
    refine y_iteB (fun hc => ?_) (fun hc => ?_)
    · cases he1 : behindN r ds with
      | nil => rw [he1] at hc; simp at hc
      | cons x m =>
        walk_at "yn"
        refine y_ixL (v := .int x) (S.l (up_l b3 q2)) (atI_of (by decide) (by rw [he1]; rfl)) ?_
        walk_at "yn"
        refine y_newI S fun t1 B1 H bS ht1 ht10 S => ?_
        walk_at "yn"
        replace S := S.tail
        refine y_app 0 S rfl (lenLt (by first | omega | (simp <;> omega))) fun H S => ?_
        try simp only [List.set] at S
        walk_at "yn"
        refine hnx _ _ ⟨_, _, ⟨_, rfl⟩, by walk_at "up", S, ?_⟩
        unfold readT
        rw [he1]
        exact pr_app (Paired.mapP hp3 fun _ _ q => PairAt.up _ _ _ _ bS q) (.cons ⟨t1, rfl, ht1⟩ .nil)
    · walk_at "yn"
      refine hnx _ _ ⟨_, _, ⟨_, rfl⟩, b3, S.tail, ?_⟩
      have : behindN r ds = [] := by
        cases he1 : behindN r ds with
        | nil => rfl
        | cons x m => rw [he1] at hc; simp at hc
      unfold readT
      rw [this]
      simpa using hp3
  clear S
  obtain ⟨B4, ws, ⟨y5, rfl⟩, b4, S, hp4⟩ := hR
  walk_at "yn"
  obtain ⟨B5, b5, hf5, S⟩ := S.frz 0 rfl hf0
  exact k _ _ B5 hf5 (Paired.mapP hp4 fun _ _ q => PairAt.up _ _ _ _ b5 q) (by walk_at "up") _ S
theorem ok_reading_ties (T : Tx K mg) : Ok P w K mg base 1 "reading_ties" ["row", "line"] (spY (φ_reading K)) :=
  Ok.of T.F_reading_ties T.g_reading_ties (fun _ _ _ _ _ _ us hl => match us, hl with | [_, _], _ => rfl) (fn_reading_ties T)
def φ_ties (K : PySem.W.Frag) : Ph := fun B vs L k => ∃ (a : Addr) (rows : List Dl) (zs : List Str), vs = [.ref a] ∧ L = [] ∧ At (.list rowC) K B (.ref a) rows ∧ rows.length ≤ 100 ∧ (∀ r ∈ rows, r.ranges.length ≤ 100 ∧ r.writes.length ≤ 100 ∧ ∀ y ∈ r.writes, y ∈ zs) ∧ zs.length ≤ 100 ∧
  ∀ p ws ts B', Paired (PairAt B') ws ts → TiesOk rows ts → Same B B' → k B' (.ref p) [(p, .lst ws)]
theorem fn_ties (T : Tx K mg) (fd : FuncData) (F : FunD K "ties" "ties" (defArgs s_ties) (defBody s_ties) (defScope s_ties) [] [] (He.ga K "ties") fd) : FnOk P w K mg base CX0 5 (He.ga K "ties") fd ["dealings"] (spY (φ_ties K)) := by
  refine fnM F sc_ties (fun B vs L k h => by obtain ⟨_, _, _, rfl, _⟩ := h; rfl) (fun cdv A outer s H vs Q E B L e hz he hr S h => ?_)
  obtain ⟨a, rows, zs, rfl, rfl, h, hl, hw, hzl, k⟩ := h
  refine ⟨_, (pss_cons (ps_set (i := 1) sc_ties.nd rfl (.inl rfl) pe_dnewT)
      (pss_cons (ps_for PassesOwn.never rfl (pi_items (pe_frz (pe_callO (ok_writers (K := K) T) hr (by rfl) (pa_cons (pv 0) pa_nil)))) (pg_tupK (K := K) (n := 2) rfl rfl (pgs_cons (pg_name (i := 2) sc_ties.nd rfl (.inl rfl)) (pgs_cons (pg_name (i := 3) sc_ties.nd rfl (.inl rfl)) pgs_nil)))
      (pss_cons (ps_for PassesOwn.never rfl (pi_zipK (K := K) rfl (by rfl) T.n_zip (pa_cons (pv 3) (pa_cons (pe_slice (sl_U (K := K) rfl) (pv 3) (po_some pe_int) po_none) pa_nil))) (pg_tupK (K := K) (n := 2) rfl rfl (pgs_cons (pg_name (i := 4) sc_ties.nd rfl (.inl rfl)) (pgs_cons (pg_name (i := 5) sc_ties.nd rfl (.inl rfl)) pgs_nil)))
      (pss_one (ps_asg pe_bl (pg_sub (pv 1) (pe_tup (pa_cons (pe_ix (ix_U (K := K) rfl (hu_of hr)) (pv 4) pe_int (fun _ _ => rfl)) (pa_cons (pe_ix (ix_U (K := K) rfl (hu_of hr)) (pv 5) pe_int (fun _ _ => rfl)) pa_nil))) (set_U (hu_of hr))))))
      (pss_one (ps_for PassesOwn.never rfl (pi_listK (K := K) rfl (pv 0)) (pg_name (i := 6) sc_ties.nd rfl (.inl rfl))
      (pss_one (ps_if (pt_val (pe_callO (ok_asks (K := K) T) (hr.mono (by decide)) (by rfl) (pa_cons (pv 6) (pa_cons (pv 2) pa_nil))))
      (pss_one (ps_for PassesOwn.never rfl (pi_listK (K := K) rfl (pe_callO (ok_reading_ties (K := K) T) (hr.mono (by decide)) (by rfl) (pa_cons (pv 6) (pa_cons (pv 3) pa_nil)))) (pg_name (i := 7) sc_ties.nd rfl (.inl rfl))
      (pss_one (ps_asg pe_bl (pg_sub (pv 1) (pv 7) (set_U (hu_of hr)))))))
      pss_nil))))))
      (pss_one (ps_ret (pe_callB (call_sortedW (P := P) (w := w) (K := K) rfl rfl rfl rfl hr.units) (by rfl) T.n_sorted (by decide +kernel) (pa_cons (pv 1) pa_nil)))))), ?_⟩
  walk_at "yn"
  obtain ⟨rv, hrv, -⟩ := at_list_ref h
  refine y_newM S fun d H hd0 S => ?_
  walk_at "yn"
  refine y_sp0 S ⟨a, rows, zs, rfl, rfl, h, hl, fun r hr => (hw r hr).2, by omega, fun wd ws B2 ok hat b2 H T => ?_⟩
  obtain ⟨hwd, S⟩ := S.backN0 T
  clear T
  refine y_frzK S hwd fun od B3 H b3 hwd3 S => ?_
  refine y_itemsK (S.frzB hwd3) ?_
  have hwsl : ws.length ≤ zs.length := ok.len fun x hx => by
    obtain ⟨r, hr⟩ := List.exists_mem_of_ne_nil _ hx
    obtain ⟨hr1, hr2⟩ := List.mem_filter.mp hr
    exact (hw r ((List.mergeSort_perm _ _).mem_iff.mp hr1)).2.2 x (of_decide_eq_true hr2)
  have hbpl : (byPlace rows).length = rows.length := (List.mergeSort_perm _ _).length_eq
  refine y_forG walk_items (fun i σ H => ∃ (B4 : Hp) (ps : List (Int × Int)), (∃ (y2 y3 y4 y5 y6 y7 : Option V), σ = [some (.ref a), some (.ref d), y2, y3, y4, y5, y6, y7]) ∧ Same B3 B4 ∧ Sy e B4 H [(d, .dT (ps.map tieKV))] ∧ ps.Nodup ∧ (∀ x, x ∈ ps ↔ ∃ p ∈ ws.take i, TieK rows p.ds p.key x) ∧ ps.length ≤ 400 * i) ⟨B3, [], ⟨_, _, _, _, _, _, rfl⟩, Same.refl _, S, by simp, fun x => by simp, by simp⟩ (fun i σ H hi ⟨B4, ps, _, b4, S, _⟩ => S.frzB (b4 _ _ hwd3)) ?_ ?_
  · rintro i x σ H H' ti ⟨B4, ps, ⟨y2, y3, y4, y5, y6, y7, rfl⟩, b4, S, nd, hm, hpl⟩ ⟨tt, x1, x2, rfl, htt, rfl, hx1, hx2⟩
    rw [List.length_map] at ti
    obtain ⟨p, hp⟩ : ∃ p, ws[i]? = some p := ⟨_, List.getElem?_eq_getElem ti⟩
    have hpm : p ∈ ws := List.mem_of_getElem? hp
    dsimp only at hx1 hx2
    rw [List.getElem?_map, hp] at hx1 hx2
    obtain rfl : V.str p.key = x1 := Option.some.inj hx1
    obtain rfl : V.ref p.at_ = x2 := Option.some.inj hx2
    obtain ⟨b5, S⟩ := S.newI (o := .tup [.str p.key, .ref p.at_]) htt
    refine y_gtup (sqT upd_same) rfl ?_
    have hline : At (.list rowC) K B3 (.ref p.at_) p.ds := (hat p hpm).up b3
    obtain ⟨lv, hlv, hlp⟩ := at_list_ref hline
    have hlvl : lv.length = p.ds.length := hlp.length
    have hdsl : p.ds.length ≤ 100 := by
      rw [ok.ds p hpm]
      have := List.length_filter_le (fun r => decide (p.key ∈ r.writes)) (byPlace rows)
      unfold lineOf
      omega
    walk_at "yn"
    refine y_slL (S.l (up_l (by walk_at "up") hlv)) ?_
    rw [cut1]
    refine y_newI S fun q1 B1 H bS hq1 hq10 S => ?_
    walk_at "yn"
    refine y_zipK (S.l (up_l (by walk_at "up") hlv)) (S.l (sqL hq1)) ?_
    refine y_forG (walk_zip (K := K) (xs := lv) (ys := lv.drop 1) (n := (p.ds.zip (p.ds.drop 1)).length) (by rw [List.length_zip, List.length_drop, List.length_drop, hlvl])) (fun j σ H => ∃ (B6 : Hp) (ps : List (Int × Int)), (∃ (y4 y5 y6 y7 : Option V), σ = [some (.ref a), some (.ref d), some (.str p.key), some (.ref p.at_), y4, y5, y6, y7]) ∧ Same B1 B6 ∧ Sy e B6 H [(d, .dT (ps.map tieKV))] ∧ ps.Nodup ∧ (∀ x, x ∈ ps ↔ (∃ p ∈ ws.take i, TieK rows p.ds p.key x) ∨ x ∈ ((p.ds.zip (p.ds.drop 1)).map fun q => (q.1.num, q.2.num)).take j) ∧ ps.length ≤ 400 * i + j) ⟨_, ps, ⟨_, _, _, _, rfl⟩, Same.refl _, S, nd, fun x => by rw [hm x]; simp, by omega⟩ (fun j σ H hj ⟨B6, ps, _, b6, S, _⟩ => ⟨S.l (up_l (by walk_at "up") hlv), S.l (sqL (b6 _ _ hq1))⟩) ?_ ?_
    · clear S nd hm hpl
      rintro j x σ H H' tj ⟨B6, ps, ⟨y4, y5, y6, y7, rfl⟩, b6, S, nd, hm, hpl⟩ ⟨t2, x1, x2, rfl, ht2, rfl, hx1, hx2⟩
      obtain ⟨b7, S⟩ := S.newI (o := .tup [x1, x2]) ht2
      refine y_gtup (sqT upd_same) rfl ?_
      obtain ⟨z1, hz1, hxz1⟩ := pr_getL hlp hx1
      obtain ⟨z2, hz2, hxz2⟩ := pr_getL (pr_drop 1 hlp) hx2
      obtain ⟨u1, c4, c5, c6, rfl, hu1, -, -, -⟩ := at_row hxz1
      obtain ⟨u2, d4, d5, d6, rfl, hu2, -, -, -⟩ := at_row hxz2
      walk_at "yn"
      refine y_newI S fun kt B1 H bS hkt hkt0 S => ?_
      walk_at "yn"
      have hzl2 : (p.ds.zip (p.ds.drop 1)).length ≤ 100 := by rw [List.length_zip]; omega
      refine y_setT 0 S rfl (S.tup hkt) (lenLt (by rw [List.length_map]; omega)) fun H S => ?_
      try simp only [List.set] at S
      rw [putT] at S
      walk_at "yn"
      have e3 : ((p.ds.zip (p.ds.drop 1)).map fun q => (q.1.num, q.2.num))[j]? = some (z1.num, z2.num) := by
        rw [List.getElem?_map, List.getElem?_zip_eq_some (z := (z1, z2)) |>.mpr ⟨hz1, hz2⟩]
        rfl
      refine ⟨_, _, ⟨_, _, _, _, rfl⟩, by walk_at "up", S, addT_nodup nd, fun x => ?_, by have := addT_len (ps := ps) (p := (z1.num, z2.num)); omega⟩
      rw [addT_mem, hm x, List.take_add_one, e3, List.mem_append, or_assoc]
      simp
    · clear S nd hm hpl
      rintro σ H ⟨B6, ps, ⟨y4, y5, y6, y7, rfl⟩, b6, S, nd, hm, hpl⟩
      have e5 : ((p.ds.zip (p.ds.drop 1)).map fun q => (q.1.num, q.2.num)).take (p.ds.zip (p.ds.drop 1)).length = (p.ds.zip (p.ds.drop 1)).map fun q => (q.1.num, q.2.num) := List.take_of_length_le (by rw [List.length_map]; exact Nat.le_refl _)
      rw [e5] at hm
      have hzl2 : (p.ds.zip (p.ds.drop 1)).length ≤ 100 := by rw [List.length_zip]; omega
      have h6 : At (.list rowC) K B6 (.ref a) rows := At.up (by walk_at "up") h
      walk_at "yn"
      refine y_forC (c := rowC) (fun j σ H => ∃ (B7 : Hp) (ps : List (Int × Int)), (∃ (y4 y5 y6 y7 : Option V), σ = [some (.ref a), some (.ref d), some (.str p.key), some (.ref p.at_), y4, y5, y6, y7]) ∧ Same B6 B7 ∧ Sy e B7 H [(d, .dT (ps.map tieKV))] ∧ ps.Nodup ∧ (∀ x, x ∈ ps ↔ ((∃ p ∈ ws.take i, TieK rows p.ds p.key x) ∨ x ∈ (p.ds.zip (p.ds.drop 1)).map fun q => (q.1.num, q.2.num)) ∨ ∃ r ∈ rows.take j, asksB r p.key = true ∧ x ∈ readT r p.ds) ∧ ps.length ≤ 400 * i + 100 + 2 * j) h6 ⟨_, ps, ⟨_, _, _, _, rfl⟩, Same.refl _, S, nd, fun x => by rw [hm x]; simp, by omega⟩ (fun j σ H hj ⟨B7, ps, _, b7, S, _⟩ => ⟨B7, _, b7, S⟩) ?_ ?_
      · clear S nd hm hpl
        rintro j x r σ H hxr hxz ⟨B7, ps, ⟨y4, y5, y6, y7, rfl⟩, b7, S, nd, hm, hpl⟩
        have hrm : r ∈ rows := List.mem_of_getElem? hxr
        have htk : rows.take (j + 1) = rows.take j ++ [r] := by rw [List.take_add_one, hxr]; rfl
        walk_at "yn"
        refine y_ifS ?_
        walk_at "yy"
        refine y_sp0 S ⟨x, p.key, r, rfl, rfl, At.up (by walk_at "up") hxz, (hw r hrm).1, fun B8 b8 H T => ?_⟩
        replace S := S.back0 T
        clear T
        walk_at "yn"
        refine y_iteB (fun hc => ?_) (fun hc => ?_)
        · have hrl : (readT r p.ds).length ≤ 2 := by
            unfold readT
            rw [List.length_append, List.length_map, List.length_map]
            have h1 : (aheadN r p.ds).getLast?.toList.length ≤ 1 := by cases (aheadN r p.ds).getLast? <;> simp
            have h2 : (behindN r p.ds).head?.toList.length ≤ 1 := by cases (behindN r p.ds).head? <;> simp
            omega
          walk_at "yn"
          refine y_sp0 S ⟨x, p.at_, r, p.ds, rfl, rfl, At.up (by walk_at "up") hxz, At.up (by walk_at "up") hline, by omega, fun rp rw B9 hrp hrpr b9 H T => ?_⟩
          replace S := S.back0 T
          clear T
          walk_at "yn"
          have hrwl : rw.length = (readT r p.ds).length := hrpr.length
          refine y_forL (xs := rw) (fun m σ H => ∃ (ps : List (Int × Int)), (∃ (y4 y5 y6 y7 : Option V), σ = [some (.ref a), some (.ref d), some (.str p.key), some (.ref p.at_), y4, y5, y6, y7]) ∧ Sy e B9 H [(d, .dT (ps.map tieKV))] ∧ ps.Nodup ∧ (∀ x, x ∈ ps ↔ (((∃ p ∈ ws.take i, TieK rows p.ds p.key x) ∨ x ∈ (p.ds.zip (p.ds.drop 1)).map fun q => (q.1.num, q.2.num)) ∨ ∃ r ∈ rows.take j, asksB r p.key = true ∧ x ∈ readT r p.ds) ∨ x ∈ (readT r p.ds).take m) ∧ ps.length ≤ 400 * i + 100 + 2 * j + m) ⟨ps, ⟨_, _, _, _, rfl⟩, S, nd, fun x => by rw [hm x]; simp, by omega⟩ (fun m σ H hm ⟨ps, _, S, _⟩ => S.l (sqL hrp)) ?_ ?_
          · clear S nd hm hpl
            rintro m x σ H hxm ⟨ps, ⟨y4, y5, y6, y7, rfl⟩, S, nd, hm, hpl⟩
            obtain ⟨tp, htp, t3, rfl, ht3⟩ := pr_getL hrpr hxm
            have hml : m < rw.length := (List.getElem?_eq_some_iff.mp hxm).1
            have hjl : j < rows.length := (List.getElem?_eq_some_iff.mp hxr).1
            walk_at "yn"
            refine y_setT 0 S rfl (S.tup ht3) (lenLt (by rw [List.length_map]; omega)) fun H S => ?_
            try simp only [List.set] at S
            rw [putT] at S
            walk_at "yn"
            refine ⟨_, ⟨_, _, _, _, rfl⟩, S, addT_nodup nd, fun x => ?_, by have := addT_len (ps := ps) (p := (tp.1, tp.2)); omega⟩
            rw [addT_mem, hm x, List.take_add_one, htp, List.mem_append, or_assoc]
            simp
          · clear S nd hm hpl
            rintro σ H ⟨ps, ⟨y4, y5, y6, y7, rfl⟩, S, nd, hm, hpl⟩
            rw [hrwl, List.take_length] at hm
            refine ⟨_, ps, ⟨_, _, _, _, rfl⟩, by walk_at "up", S, nd, fun x => ?_, by omega⟩
            rw [hm x, htk, or_assoc]
            refine or_congr Iff.rfl ⟨?_, ?_⟩
            · rintro (⟨r', h1, h2⟩ | h1)
              · exact ⟨r', List.mem_append_left _ h1, h2⟩
              · exact ⟨r, List.mem_append_right _ (List.mem_singleton_self _), hc, h1⟩
            · rintro ⟨r', h1, h2, h3⟩
              rcases List.mem_append.mp h1 with h1 | h1
              · exact .inl ⟨r', h1, h2, h3⟩
              · rw [List.mem_singleton.mp h1] at h3
                exact .inr h3
        · walk_at "yn"
          refine ⟨_, ps, ⟨_, _, _, _, rfl⟩, by walk_at "up", S, nd, fun x => ?_, by omega⟩
          rw [hm x, htk]
          refine or_congr Iff.rfl ⟨?_, ?_⟩
          · rintro ⟨r', h1, h2⟩
            exact ⟨r', List.mem_append_left _ h1, h2⟩
          · rintro ⟨r', h1, h2, h3⟩
            rcases List.mem_append.mp h1 with h1 | h1
            · exact ⟨r', h1, h2, h3⟩
            · rw [List.mem_singleton.mp h1, hc] at h2
              cases h2
      · clear S nd hm hpl
        rintro σ H ⟨B7, ps, ⟨y4, y5, y6, y7, rfl⟩, b7, S, nd, hm, hpl⟩
        rw [List.take_length] at hm
        refine ⟨B7, ps, ⟨_, _, _, _, _, _, rfl⟩, by walk_at "up", S, nd, fun x => ?_, by omega⟩
        rw [hm x, List.take_add_one, hp, or_assoc]
        constructor
        · rintro (⟨q, h1, h2⟩ | h1)
          · exact ⟨q, List.mem_append_left _ h1, h2⟩
          · exact ⟨p, List.mem_append_right _ (by simp), h1⟩
        · rintro ⟨q, h1, h2⟩
          rcases List.mem_append.mp h1 with h1 | h1
          · exact .inl ⟨q, h1, h2⟩
          · have : q = p := by simpa using h1
            rw [this] at h2
            exact .inr h2
  · rintro σ H ⟨B4, ps, ⟨y2, y3, y4, y5, y6, y7, rfl⟩, b4, S, nd, hm, hpl⟩
    rw [List.length_map, List.take_length] at hm
    walk_at "yn"
    refine .inl (.inr (.inr (.inr ⟨d, _, ps, rfl, .inl (S.at 0 rfl), by rw [List.map_map]; rfl, fun bs hb1 hb2 => ?_⟩)))
    obtain ⟨B5, b5, hb3, S⟩ := S.adoptAll hb2
    have e3 : (bs.mergeSort fun p q => leD (.tuple [.int p.2.1, .int p.2.2]) (.tuple [.int q.2.1, .int q.2.2])).map (·.2) = ps.mergeSort leT := by
      rw [List.map_mergeSort (r := fun p q : V × (Int × Int) => leD (.tuple [.int p.2.1, .int p.2.2]) (.tuple [.int q.2.1, .int q.2.2])) (s := leT) (f := fun b : V × (Int × Int) => b.2) (fun _ _ _ _ => rfl), hb1]
    have hpr : Paired (PairAt B5) ((bs.mergeSort fun p q => leD (.tuple [.int p.2.1, .int p.2.2]) (.tuple [.int q.2.1, .int q.2.2])).map (·.1)) (ps.mergeSort leT) := by
      rw [← e3]
      exact pr_maps fun b hb => hb3 b ((List.mergeSort_perm _ _).mem_iff.mp hb)
    refine y_newM S fun r H hr0 S => ?_
    refine k r _ _ B5 hpr (TiesOk.of nd fun x => ?_) (by walk_at "up") _ (S.sub (by simp))
    rw [hm x]
    constructor
    · rintro ⟨p, hp, ht⟩
      rw [ok.ds p hp] at ht
      exact ⟨p.key, ht⟩
    · rintro ⟨key, ht⟩
      have hne : lineOf rows key ≠ [] := fun z => by
        rw [z] at ht
        exact tieK_nil ht
      obtain ⟨p, hp, rfl⟩ := List.mem_map.mp ((ok.mem key).mpr hne)
      exact ⟨p, hp, by rw [ok.ds p hp]; exact ht⟩
theorem ok_ties (T : Tx K mg) : Ok P w K mg base 5 "ties" ["dealings"] (spY (φ_ties K)) :=
  Ok.of T.F_ties T.g_ties (fun _ _ _ _ _ _ us hl => match us, hl with | [_], _ => rfl) (fn_ties T)

theorem mt_indexK {X : Cx} {K : PySem.W.Frag} (hK : X.K = K) : MtR X "list.index" (rIndex K) := hK ▸ mt_index
theorem ps_setDc {X : Cx} {i : Nat} {y : Str} {py : Pos} {kx vx tg iter : Expr} {ifs : List Expr} {scope : Scope} {own : List (Str × Nat)} {pos spos : Pos} {wi : TI} {g : TG} {tt : TT} {tk tv : TE} (hc : X.calm = true) (hN : X.N.Nodup) (hy : X.N[i]? = some y) (hyl : X.env.scope.names.lookup y = some .local)
    (hsw : swapsWith (.DictComp kx vx [⟨tg, iter, ifs, 0⟩] scope pos) (some (.Name y py)) spos.line X.env = pure true) (hi : PI X tg iter wi) (ok : BlkOk X.N X.env.scope scope own)
    (hg : ∀ (s : Shared) (H : Hp) (C : Addr) (cl : List (Str × Addr)) (fp : List Addr), PG (X.blk s H scope (compEnvC scope cl C X.env) fp) tg g) (ht : ∀ (s : Shared) (H : Hp) (C : Addr) (cl : List (Str × Addr)) (fp : List Addr), PTs (X.blk s H scope (compEnvC scope cl C X.env) fp) ifs tt)
    (hk : ∀ (s : Shared) (H : Hp) (C : Addr) (cl : List (Str × Addr)) (fp : List Addr), PE (X.blk s H scope (compEnvC scope cl C X.env) fp) kx tk)
    (he : ∀ (s : Shared) (H : Hp) (C : Addr) (cl : List (Str × Addr)) (fp : List Addr), PE (X.blk s H scope (compEnvC scope cl C X.env) fp) vx tv) (hs : ∀ x, foldedSetIterable iter X.env x = pure x := by intro _; rfl) :
    PS X (.Assign [.Name y py] (.DictComp kx vx [⟨tg, iter, ifs, 0⟩] scope pos) spos) (tAsg (tDc wi g tt tk tv (own.map (·.2))) (gName i)) := by
  refine ⟨fun pins s σ H D I h => ?_⟩
  rw [exec_Assign_Name_used _ _ _ _ hsw]
  refine wpAny_bind (wpAny_standAt (wpAny_bind ?_))
  show wpAny _ X.A (do let _ ← comprehension (.DictComp kx vx [⟨tg, iter, ifs, 0⟩] scope pos) scope X.env (firstIterPos [⟨tg, iter, ifs, 0⟩] pos) newDict false (eval iter X.env) (some (assign (.Name y py) X.env))) _ _ s
  have h : tDc wi g tt tk tv (own.map (·.2)) σ H (fun x H1 => gName i x σ H1 D.nx) := h
  refine wpAny_bind (thn (dc_core (Qf := fun _ s' => SP X pins D .next s') hc hN I hi ok hg ht hk he hs h fun L C s' m H' I' q hn f => ?_) fun _ s' hq => wpAny_pure (wpAny_pure hq))
  show wpAny _ _ (assign (.Name y py) X.env (.ref L)) _ _ _
  refine wpAny_assign_Name (store_ok2 (v := V.ref L) I' hN hy (.inl hyl) rfl (fun s2 I2 ⟨a, sb, ha⟩ => ?_) (.inr hyl))
  obtain ⟨f0, f1, f2, f3, f4, f5⟩ := f
  have haC : C ≠ a := by
    rcases ha with z | z
    · rw [z]; exact f1
    · exact fun e => f4 y a z e.symm
  refine ⟨m, hn.sameBut sb haC, fun h3 sb3 => ?_⟩
  exact ⟨_, H', I2.turned (t' := s2.toks) (fun b o hb e => (sb3.2 b hb).trans e) f0 f1 f3 f4 f5, q⟩
theorem sw_trueD {kx vx : Expr} {gs : List Comprehension} {scope : Scope} {pos py : Pos} {y : Str} {l : Nat} {env : Env} (hk : env.scope.kind = .function) (hy : env.scope.names.lookup y = some .local) (hl : (py.line == pos.line) = true)
    (ha : (scope.names.any fun (n, k) => n == y && (k == .local || k == .cell)) = false) : swapsWith (.DictComp kx vx gs scope pos) (some (.Name y py)) l env = pure true := by
  have ky : env.kindOf y = some .local := hy
  have hb : env.blockKind = .function := by unfold Env.blockKind; rw [hk]; rfl
  unfold swapsWith
  simp only [hb, ky, ha, Expr.pos, hl]
  rfl
/-- a dict that was laid since the entry is locked, for a statement -/
theorem y_lockS {e : En} {B H : Hp} {L : Led} {d : Addr} {σ : L2.St} {t : TS} {nx bk ct : L2.St → Hp → Prop} {rt : VK} (hz : e.Z = []) (S : Sy e B H L) {kvs : List (Key × V)} (hB : B d = some (.dK kvs)) (hn : e.H d = none)
    (k : ∀ od H1 e1 (nx' : L2.St → Hp → Prop) (rt' : VK) (bk' ct' : L2.St → Hp → Prop), e1.H = e.H → H1 d = some (.frz od (.dK kvs)) → Sy e1 B H1 L → (∀ B' H' L', Sy e1 B' H' L' → H' d = some (.frz od (.dK kvs))) → (∀ σ' B' H' L', Same B B' → Sy e1 B' H' L' → (∀ H2, Sy e B' H2 L' → nx σ' H2) → nx' σ' H') →
      (∀ v B' H' L', Same B B' → Sy e1 B' H' L' → (∀ H2, Sy e B' H2 L' → rt v H2) → rt' v H') → t ⟨nx', rt', bk', ct'⟩ σ H1) : tLock t ⟨nx, rt, bk, ct⟩ σ H := by
  have hH := S.dk hB trivial hn hz
  refine ⟨d, .dK kvs, hH, trivial, fun od => ?_⟩
  refine k od _ { e with Z := (d, od, .dK kvs) :: e.Z } _ _ _ _ rfl upd_same (S.lock hB trivial hH) (fun B' H' L' T => T.zin (d, od, .dK kvs) List.mem_cons_self) (fun σ' B' H' L' b T q => ?_) (fun v B' H' L' b T q => ?_)
  · obtain ⟨h1, h2⟩ := S.unlock hB trivial hH b T
    exact ⟨h1, q _ h2⟩
  · obtain ⟨h1, h2⟩ := S.unlock hB trivial hH b T
    exact ⟨h1, q _ h2⟩

/-- a dealing and those to which it is tied -/
structure Bl where
  num : Int
  at_ : Addr
  ns : List Int
abbrev blD (bs : List Bl) : HO := .dK (bs.map fun p => (.inl p.num, .ref p.at_))
abbrev blL (bs : List Bl) : Led := bs.map fun p => (p.at_, .lst (p.ns.map V.int))
structure BlOk (ks : List Int) (f : Int → List Int) (bs : List Bl) : Prop where
  kk : bs.map (·.num) = ks
  nd : ks.Nodup
  ns : ∀ p ∈ bs, p.ns = f p.num
theorem bl_val {bs : List Bl} {n : Int} : valV (bs.map fun p => ((.inl p.num : Key), V.ref p.at_)) (.inl n) = (bs.find? fun p => decide (p.num = n)).map fun p => V.ref p.at_ := by
  induction bs with
  | nil => rfl
  | cons p bs ih =>
    rw [List.map_cons, List.find?_cons]
    by_cases h : p.num = n
    · rw [valV_pos (show (Sum.inl p.num : Key) = .inl n by rw [h]), decide_eq_true h]
      rfl
    · rw [valV_neg (show ¬ (Sum.inl p.num : Key) = .inl n from fun z => h (Sum.inl.inj z)), ih, decide_eq_false h]
theorem BlOk.find {ks : List Int} {f : Int → List Int} {bs : List Bl} (h : BlOk ks f bs) {n : Int} (hn : n ∈ ks) : ∃ (j : Nat) (p : Bl), bs[j]? = some p ∧ p.num = n ∧ valV (bs.map fun p => ((.inl p.num : Key), V.ref p.at_)) (.inl n) = some (.ref p.at_) := by
  rw [bl_val]
  rw [← h.kk] at hn
  obtain ⟨q, hq, e⟩ := List.mem_map.mp hn
  cases hf : bs.find? fun p => decide (p.num = n) with
  | none =>
    have := List.find?_eq_none.mp hf q hq
    simp [e] at this
  | some p =>
    obtain ⟨j, hj⟩ := List.mem_iff_getElem?.mp (List.mem_of_find?_eq_some hf)
    exact ⟨j, p, hj, of_decide_eq_true (by simpa using List.find?_some hf), rfl⟩
theorem BlOk.more {ks : List Int} {f : Int → List Int} {bs : List Bl} {n : Nat} {p : Bl} {o : Int} (h : BlOk ks f bs) (hp : bs[n]? = some p) : BlOk ks (fun x => if x = p.num then f x ++ [o] else f x) (bs.set n ⟨p.num, p.at_, p.ns ++ [o]⟩) := by
  have hn : n < bs.length := (List.getElem?_eq_some_iff.mp hp).1
  have ek : (bs.set n ⟨p.num, p.at_, p.ns ++ [o]⟩).map (·.num) = bs.map (·.num) := by
    rw [List.map_set]
    apply List.ext_getElem?
    intro i
    rw [List.getElem?_set]
    split
    · next e => subst e; rw [if_pos (by rw [List.length_map]; exact hn), List.getElem?_map, hp]; rfl
    · rfl
  refine ⟨by rw [ek]; exact h.kk, h.nd, fun q hq => ?_⟩
  obtain ⟨i, hi⟩ := List.mem_iff_getElem?.mp hq
  rw [List.getElem?_set] at hi
  split at hi
  · next e =>
    first | rw [if_pos hn] at hi | skip
    have e1 := Option.some.inj hi
    subst e1
    show p.ns ++ [o] = if p.num = p.num then f p.num ++ [o] else f p.num
    rw [if_pos rfl, h.ns p (List.mem_of_getElem? hp)]
  · next e =>
    have c : q.num ≠ p.num := fun c => by
      have nd : (bs.map (·.num)).Nodup := by rw [h.kk]; exact h.nd
      have e1 : (bs.map (·.num))[i]? = some q.num := by rw [List.getElem?_map, hi]; rfl
      have e2 : (bs.map (·.num))[n]? = some p.num := by rw [List.getElem?_map, hp]; rfl
      have e3 : i = n := (List.getElem?_inj (by rw [List.length_map]; exact (List.getElem?_eq_some_iff.mp hi).1) nd).mp (by rw [e1, e2, c])
      exact e e3.symm
    rw [if_neg c]
    exact h.ns q (List.mem_of_getElem? hi)
theorem BlOk.congr {ks : List Int} {f g : Int → List Int} {bs : List Bl} (h : BlOk ks f bs) (e : ∀ x, f x = g x) : BlOk ks g bs := ⟨h.kk, h.nd, fun p hp => by rw [← e]; exact h.ns p hp⟩
theorem bl_set {bs : List Bl} {n : Nat} {p : Bl} {d : Addr} {o : Int} (hp : bs[n]? = some p) : ((d, blD bs) :: blL bs).set (n + 1) (p.at_, .lst ((p.ns ++ [o]).map V.int)) = (d, blD (bs.set n ⟨p.num, p.at_, p.ns ++ [o]⟩)) :: blL (bs.set n ⟨p.num, p.at_, p.ns ++ [o]⟩) := by
  have hn : n < bs.length := (List.getElem?_eq_some_iff.mp hp).1
  rw [List.set_cons_succ]
  congr 1
  · unfold blD
    rw [List.map_set]
    have : (bs.map fun p => ((.inl p.num : Key), V.ref p.at_)).set n (.inl p.num, .ref p.at_) = bs.map fun p => ((.inl p.num : Key), V.ref p.at_) := by
      apply List.ext_getElem?
      intro i
      rw [List.getElem?_set]
      split
      · next e => subst e; rw [if_pos (by rw [List.length_map]; exact hn), List.getElem?_map, hp]; rfl
      · rfl
    rw [this]
  · unfold blL
    rw [List.map_set]
/-- those to which one is tied -/
def succF (ts : List (Int × Int)) (n : Int) : List Int := (ts.filter fun t => decide (t.1 = n)).map (·.2)
/-- what is asked of dealings handed in -/
structure DealsIn (K : PySem.W.Frag) (B : Hp) (a : Addr) (rows : List Dl) : Prop where
  at_ : At (.list rowC) K B (.ref a) rows
  ok : ∃ zs : List Str, DealsOk zs rows ∧ zs.length ≤ 100
theorem DealsIn.up {B B' : Hp} {a : Addr} {rows : List Dl} (h : DealsIn K B a rows) (b : Same B B') : DealsIn K B' a rows := ⟨h.at_.up b, h.ok⟩
theorem hw_of {zs : List Str} {rows : List Dl} (ok : DealsOk zs rows) : ∀ r ∈ rows, r.ranges.length ≤ 100 ∧ r.writes.length ≤ 100 ∧ ∀ y ∈ r.writes, y ∈ zs := fun r hr => by
  have h := ok.each r hr
  exact ⟨by have := h.gl; omega, by have := h.wl; omega, h.wr⟩
theorem tie_in {zs : List Str} {rows : List Dl} (ok : DealsOk zs rows) {ts : List (Int × Int)} (ht : TiesOk rows ts) {x : Int × Int} (hx : x ∈ ts) : x.1 ∈ rows.map (·.num) ∧ x.2 ∈ rows.map (·.num) := by
  obtain ⟨key, h⟩ := (ht.mem x).mp hx
  obtain ⟨one, h1, other, h2, _, rfl, _⟩ := tieK_of ok h
  exact ⟨List.mem_map.mpr ⟨one, h1, rfl⟩, List.mem_map.mpr ⟨other, h2, rfl⟩⟩
theorem ties_len {zs : List Str} {rows : List Dl} (ok : DealsOk zs rows) {ts : List (Int × Int)} (ht : TiesOk rows ts) : ts.length ≤ 10000 := by
  have h1 := len_le_of ht.nd (m := (rows.map (·.num)).flatMap fun a => (rows.map (·.num)).map fun b => (a, b)) fun x hx => by
    obtain ⟨h1, h2⟩ := tie_in ok ht hx
    exact List.mem_flatMap.mpr ⟨x.1, h1, List.mem_map.mpr ⟨x.2, h2, rfl⟩⟩
  have h2 : ∀ l : List Int, (l.flatMap fun a => (rows.map (·.num)).map fun b => (a, b)).length = l.length * rows.length := fun l => by
    induction l with
    | nil => simp
    | cons a l ih => rw [List.flatMap_cons, List.length_append, ih, List.length_map, List.length_map, List.length_cons, Nat.succ_mul, Nat.add_comm]
  rw [h2, List.length_map] at h1
  have h3 := ok.len
  have h4 : rows.length * rows.length ≤ 100 * 100 := Nat.mul_le_mul h3 h3
  omega
theorem pr_ofIntsX {B : Hp} : ∀ ns : List Int, Paired (At .int K B) (ns.map V.int) ns
  | [] => .nil
  | _ :: ns => .cons .int (pr_ofIntsX ns)
def φ_behind (K : PySem.W.Frag) : Ph := fun B vs L k => ∃ (a : Addr) (rows : List Dl), vs = [.ref a] ∧ L = [] ∧ DealsIn K B a rows ∧
  ∀ d (bs : List Bl) ts B', TiesOk rows ts → BlOk (rows.map (·.num)) (succF ts) bs → (∀ p ∈ bs, At (.list .int) K B' (.ref p.at_) p.ns) → Same B B' → k B' (.ref d) [(d, blD bs)]
theorem fn_behind_of (T : Tx K mg) (fd : FuncData) (F : FunD K "behind_of" "behind_of" (defArgs s_behind_of) (defBody s_behind_of) (defScope s_behind_of) [] [] (He.ga K "behind_of") fd) : FnOk P w K mg base CX0 6 (He.ga K "behind_of") fd ["dealings"] (spY (φ_behind K)) := by
  refine fnM F sc_behind_of (fun B vs L k h => by obtain ⟨_, _, rfl, _⟩ := h; rfl) (fun cdv A outer s H vs Q E B L e hz he hr S h => ?_)
  obtain ⟨a, rows, rfl, rfl, hin, k⟩ := h
  refine ⟨_, (pss_cons (ps_setDc (i := 1) (own := [("row", 4)]) (by rfl) sc_behind_of.nd rfl rfl (sw_trueD rfl rfl rfl (by decide +kernel)) (pi_listK (K := K) rfl (pv 0)) (blkOk_by (own := [("row", 4)]) (N := ["dealings", "found", "one", "other", "row"]) (sc := defScope s_behind_of) (by decide +kernel)) (fun _ _ _ _ _ => (pg_name (i := 4) sc_behind_of.nd rfl (.inl rfl))) (fun _ _ _ _ _ => pts_nil) (fun _ _ _ _ _ => (pe_ix (ix_U (K := K) rfl (hu_of hr)) (pv 4) pe_int (fun _ _ => rfl))) (fun _ _ _ _ _ => (pe_lst pa_nil)))
      (pss_cons (ps_for PassesOwn.never rfl (pi_listK (K := K) rfl (pe_callO (ok_ties (K := K) T) hr (by rfl) (pa_cons (pv 0) pa_nil))) (pg_tupK (K := K) (n := 2) rfl rfl (pgs_cons (pg_name (i := 2) sc_behind_of.nd rfl (.inl rfl)) (pgs_cons (pg_name (i := 3) sc_behind_of.nd rfl (.inl rfl)) pgs_nil)))
      (pss_one (ps_expr (pe_bmK (K := K) (id := "list.append") rfl (pe_bm PySem.F.plainAttrs_list PySem.F.slot_list_append PySem.F.type_list_append mt_append (pe_ix (ix_U (K := K) rfl (hu_of hr)) (pv 1) (pv 2) (fun _ _ => rfl)) (pa_cons (pv 3) pa_nil))))))
      (pss_one (ps_ret (pv 1))))), ?_⟩
  walk_at "yn"
  obtain ⟨h, zs, ok, hzl⟩ := hin
  obtain ⟨rv, hrv, hrp⟩ := at_list_ref h
  have hrl := ok.len
  have hrvl : rv.length = rows.length := hrp.length
  walk_at "yn"
  refine y_dcG (walk_list (xs := rv)) S (fun i B1 kvs L1 => ∃ bs : List Bl, kvs = bs.map (fun p => (.inl p.num, .ref p.at_)) ∧ L1 = blL bs ∧ bs.map (·.num) = (rows.take i).map (·.num) ∧ (∀ p ∈ bs, p.ns = [] ∧ e.H p.at_ = none)) ⟨[], rfl, rfl, by simp, fun p hp => (by cases hp)⟩ (fun i B1 H1 kvs L1 D hP b1 S1 => S1.l (up_l b1 hrv)) (fun i x B1 H1 H1' kvs L1 D Kp Kn hi hP b1 hD S hy kp kn => ?_) (fun B1 H kvs L1 D hP b1 hD S => ?_)
  · obtain ⟨rfl, e2⟩ := hy
    obtain ⟨bs, rfl, rfl, hbk, hbn⟩ := hP
    obtain ⟨z, hz, hxz⟩ := pr_getL hrp e2
    obtain ⟨t, a4, a5, a6, rfl, ht, -, -, -⟩ := at_row hxz
    have htk : rows.take (i + 1) = rows.take i ++ [z] := by rw [List.take_add_one, hz]; rfl
    have hzn : z.num ∉ bs.map (·.num) := by
      rw [hbk]
      intro hm
      have nd2 : ((rows.take (i + 1)).map (·.num)).Nodup := ok.nn.sublist ((List.take_sublist _ _).map _)
      rw [htk, List.map_append] at nd2
      exact (List.nodup_append.mp nd2).2.2 _ hm _ (List.mem_singleton_self _) rfl
    have hbl : bs.length ≤ i := by
      have := congrArg List.length hbk
      rw [List.length_map, List.length_map, List.length_take] at this
      omega
    walk_at "yn"
    refine y_newM S fun l H hl0 S => ?_
    walk_at "yn"
    have S2 : Sy e B1 H ((D, blD bs) :: blL (bs ++ [⟨z.num, l, []⟩])) := S.perm (by
      unfold blL
      rw [List.map_append]
      refine (List.Perm.swap _ _ _).trans (.cons _ ?_)
      exact (List.perm_append_singleton _ _).symm)
    refine kp (.inl z.num) (.ref l) B1 _ _ (lenLt (by rw [List.length_map]; omega)) b1 S2 ⟨bs ++ [⟨z.num, l, []⟩], ?_, rfl, by rw [List.map_append, hbk, htk, List.map_append]; rfl, fun p hp => ?_⟩
    · rw [putK_new _ (by
        rw [bl_val]
        cases hf : bs.find? fun p => decide (p.num = z.num) with
        | none => rfl
        | some p => exact absurd (List.mem_map.mpr ⟨p, List.mem_of_find?_eq_some hf, of_decide_eq_true (by simpa using List.find?_some hf)⟩) hzn), List.map_append]
      rfl
    · rcases List.mem_append.mp hp with hp | hp
      · exact hbn p hp
      · have : p = ⟨z.num, l, []⟩ := by simpa using hp
        subst this
        exact ⟨rfl, hl0⟩
  obtain ⟨bs, rfl, rfl, hbk, hbn⟩ := hP
  rw [hrvl, List.take_length] at hbk
  walk_at "yn"
  refine y_sp0 S ⟨a, rows, zs, rfl, rfl, h.up b1, hrl, hw_of ok, hzl, fun p ws ts B2 hpr hts b2 H T => ?_⟩
  obtain ⟨hp0, S⟩ := S.backN0 T
  clear T
  obtain ⟨B3, b3, hp3, S⟩ := S.frz 0 rfl hp0
  try simp only [List.eraseIdx] at S
  have hwl : ws.length = ts.length := hpr.length
  have htl := ties_len ok hts
  refine y_lstK (S.l (sqL hp3)) ?_
  refine y_forL (xs := ws) (fun i σ H => ∃ (bs : List Bl), (∃ (y2 y3 y4 : Option V), σ = [some (.ref a), some (.ref D), y2, y3, y4]) ∧ Sy e B3 H ((D, blD bs) :: blL bs) ∧ BlOk (rows.map (·.num)) (succF (ts.take i)) bs ∧ (∀ p ∈ bs, p.ns.length ≤ i ∧ e.H p.at_ = none)) ⟨bs, ⟨_, _, _, rfl⟩, S, ⟨hbk, ok.nn, fun p hp => by rw [(hbn p hp).1]; rfl⟩, fun p hp => ⟨by rw [(hbn p hp).1]; exact Nat.le_refl _, (hbn p hp).2⟩⟩ (fun i σ H hi ⟨bs, _, S, _⟩ => S.l (sqL hp3)) ?_ ?_
  · clear S hbk hbn
    rintro i x σ H hx ⟨bs, ⟨y2, y3, y4, rfl⟩, S, bok, hbn⟩
    obtain ⟨tp, htp, t, rfl, ht⟩ := pr_getL hpr hx
    have hil : i < ws.length := (List.getElem?_eq_some_iff.mp hx).1
    have htm := tie_in ok hts (List.mem_of_getElem? htp)
    obtain ⟨j, p, hpj, hpn, hval⟩ := bok.find htm.1
    have ht3 : SqT K B3 t [.int tp.1, .int tp.2] := sqT (b3 _ _ ht)
    walk_at "yn"
    refine y_ixD (k := .inl tp.1) (.inl (S.at 0 rfl)) rfl hval ?_
    have hat : ((D, blD bs) :: blL bs)[j + 1]? = some (p.at_, .lst (p.ns.map V.int)) := by
      rw [List.getElem?_cons_succ, List.getElem?_map, hpj]
      rfl
    refine ⟨tyL (S.at (j + 1) hat), ?_⟩
    walk_at "yn"
    have hpm : p ∈ bs := List.mem_of_getElem? hpj
    refine y_app (j + 1) S hat (lenLt (by rw [List.length_map]; have := (hbn p hpm).1; omega)) fun H S => ?_
    rw [show p.ns.map V.int ++ [V.int tp.2] = (p.ns ++ [tp.2]).map V.int by rw [List.map_append]; rfl, bl_set hpj] at S
    walk_at "yn"
    refine ⟨_, ⟨_, _, _, rfl⟩, S, (bok.more hpj).congr (fun x => ?_), fun q hq => ?_⟩
    · unfold succF
      rw [List.take_add_one, htp, List.filter_append, List.map_append]
      by_cases c : x = p.num
      · subst c
        rw [if_pos rfl]
        simp [hpn]
      · rw [if_neg c]
        have : ¬ tp.1 = x := fun z => c (by rw [← z, hpn])
        simp [this]
    · rcases List.mem_or_eq_of_mem_set hq with hq | rfl
      · exact ⟨by have := (hbn q hq).1; omega, (hbn q hq).2⟩
      · exact ⟨by rw [List.length_append]; have := (hbn p hpm).1; simp; omega, (hbn p hpm).2⟩
  · clear S hbk hbn
    rintro σ H ⟨bs, ⟨y2, y3, y4, rfl⟩, S, bok, hbn⟩
    rw [hwl, List.take_length] at bok
    walk_at "yn"
    obtain ⟨B4, b4, h4, S4⟩ := Sy.frzAll (N := blL bs) (L := [(D, blD bs)]) (S.perm (List.perm_append_singleton _ _).symm) (fun p hp => by
      obtain ⟨q, hq, rfl⟩ := List.mem_map.mp hp
      exact (hbn q hq).2)
    exact k D bs ts B4 hts bok (fun p hp => .list (sqL (h4 _ (List.mem_map.mpr ⟨p, hp, rfl⟩))) (pr_ofIntsX _)) (by walk_at "up") _ S4
theorem ok_behind_of (T : Tx K mg) : Ok P w K mg base 6 "behind_of" ["dealings"] (spY (φ_behind K)) :=
  Ok.of T.F_behind_of T.g_behind_of (fun _ _ _ _ _ _ us hl => match us, hl with | [_], _ => rfl) (fn_behind_of T)

/-! ### rings in plain words -/
def leftStep (ts : List (Int × Int)) (l : List Int) : List Int := l.filter fun one => (succF ts one).any fun o => decide (o ∈ l)
def leftF (ts : List (Int × Int)) (l : List Int) : List Int := if (leftStep ts l).length < l.length then leftF ts (leftStep ts l) else l
termination_by l.length
theorem leftF_fix {ts : List (Int × Int)} {l : List Int} (h : leftStep ts l = l) : leftF ts l = l := by
  rw [leftF, h, if_neg (Nat.lt_irrefl _)]
theorem leftStep_len {ts : List (Int × Int)} {l : List Int} : (leftStep ts l).length ≤ l.length := List.length_filter_le _ _
theorem leftStep_fix {ts : List (Int × Int)} {l : List Int} (h : (leftStep ts l).length = l.length) : leftStep ts l = l := List.filter_sublist.eq_of_length h
theorem leftF_step {ts : List (Int × Int)} {l : List Int} : leftF ts (leftStep ts l) = leftF ts l := by
  conv => rhs; rw [leftF]
  split
  · rfl
  · next c =>
    have h : leftStep ts l = l := leftStep_fix (by have := leftStep_len (ts := ts) (l := l); omega)
    rw [h, leftF_fix h]
def Linked (ts : List (Int × Int)) (path : List Int) : Prop := ∀ (i : Nat) (x y : Int), path[i]? = some x → path[i + 1]? = some y → (x, y) ∈ ts
structure IsRing (ts : List (Int × Int)) (ns : List Int) : Prop where
  ne : ns ≠ []
  nd : ns.Nodup
  lk : ∀ (i : Nat) (x y : Int), i < ns.length → ns[i]? = some x → ns[(i + 1) % ns.length]? = some y → (x, y) ∈ ts
abbrev leftK (l : List Int) : List (Key × V) := l.map fun n => (.inl n, .bl true)
theorem leftK_val {l : List Int} {n : Int} : (valV (leftK l) (.inl n)).isSome = decide (n ∈ l) := by
  induction l with
  | nil => rfl
  | cons a l ih =>
    unfold leftK at *
    rw [List.map_cons]
    by_cases h : a = n
    · rw [valV_pos (show (Sum.inl a : Key) = .inl n by rw [h]), decide_eq_true (by rw [h]; exact List.mem_cons_self)]
      rfl
    · rw [valV_neg (show ¬ (Sum.inl a : Key) = .inl n from fun z => h (Sum.inl.inj z)), ih]
      by_cases c : n ∈ l
      · rw [decide_eq_true c, decide_eq_true (List.mem_cons_of_mem _ c)]
      · rw [decide_eq_false c, decide_eq_false (fun z => (List.mem_cons.mp z).elim (fun e => h e.symm) c)]
theorem leftK_put {l : List Int} {n : Int} (h : n ∉ l) : putK (leftK l) (.inl n) (.bl true) = leftK (l ++ [n]) := by
  have h1 : valV (leftK l) (.inl n) = none := by
    have := leftK_val (l := l) (n := n)
    rw [decide_eq_false h] at this
    cases q : valV (leftK l) (.inl n) with
    | none => rfl
    | some v => rw [q] at this; cases this
  rw [putK_new _ h1]
  unfold leftK
  rw [List.map_append]
  rfl
theorem y_notInN {H : Hp} {Q : VK} {a : Addr} {z : Int} {zs : List Int} (h : SqL K H a (zs.map V.int)) (q : Q (.bl (!decide (z ∈ zs))) H) : rNotInZ K (.int z) (.ref a) H Q := by
  refine .inr ⟨.int z, zs.map .int, .int z, .inl (.lst h (dp_ints zs)), rfl, plainAll_of (fun d hd => by obtain ⟨x, _, rfl⟩ := List.mem_map.mp hd; rfl), by simp [PyData.depth], ?_⟩
  rw [show ((zs.map PyData.int).any fun d => PyData.eqv d (.int z)) = decide (z ∈ zs) from any_enc .int z zs, Bool.true_xor]
  exact q
def φ_ring (K : PySem.W.Frag) : Ph := fun B vs L k => ∃ (a : Addr) (rows : List Dl), vs = [.ref a] ∧ L = [] ∧ DealsIn K B a rows ∧
  ∀ ts B', TiesOk rows ts → Same B B' → (leftF ts (rows.map (·.num)) = [] → k B' .non []) ∧ (∀ p ns, leftF ts (rows.map (·.num)) ≠ [] → IsRing ts ns → k B' (.ref p) [(p, .lst (ns.map V.int))])
/-- those of a dealing's that are left -/
theorem left_next {ts : List (Int × Int)} {l : List Int} (h : leftStep ts l = l) {n : Int} (hn : n ∈ l) : 0 < ((succF ts n).filter fun o => decide (o ∈ l)).length := by
  rw [← h] at hn
  unfold leftStep at hn
  obtain ⟨_, h2⟩ := List.mem_filter.mp hn
  obtain ⟨o, h3, h4⟩ := List.any_eq_true.mp h2
  exact List.length_pos_of_mem (List.mem_filter.mpr ⟨h3, h4⟩)
theorem succ_tie {ts : List (Int × Int)} {n o : Int} (h : o ∈ succF ts n) : (n, o) ∈ ts := by
  unfold succF at h
  obtain ⟨t, h1, rfl⟩ := List.mem_map.mp h
  obtain ⟨h2, h3⟩ := List.mem_filter.mp h1
  rw [← of_decide_eq_true h3]
  exact h2
theorem ring_of {ts : List (Int × Int)} {path : List Int} {at_ : Int} {j : Nat} (nd : path.Nodup) (lk : Linked ts path) (hl : ∀ z, path.getLast? = some z → (z, at_) ∈ ts) (hj : path[j]? = some at_) : IsRing ts (path.drop j) := by
  have hjl : j < path.length := (List.getElem?_eq_some_iff.mp hj).1
  have hlen : (path.drop j).length = path.length - j := List.length_drop
  refine ⟨fun z => by rw [z] at hlen; simp at hlen; omega, nd.sublist (List.drop_sublist _ _), fun i x y hi hx hy => ?_⟩
  rw [List.getElem?_drop] at hx
  rw [hlen] at hi
  by_cases c : i + 1 < path.length - j
  · rw [hlen, Nat.mod_eq_of_lt c, List.getElem?_drop] at hy
    exact lk (j + i) x y hx (by rw [show j + i + 1 = j + (i + 1) by omega]; exact hy)
  · have e1 : i + 1 = path.length - j := by omega
    rw [hlen, e1, Nat.mod_self, List.getElem?_drop, Nat.add_zero, hj] at hy
    cases hy
    refine hl x ?_
    rw [List.getLast?_eq_getElem?, ← hx]
    congr 1
    omega
theorem cutFrom (xs : List V) {j : Nat} (h : j ≤ xs.length) : cutV xs (some (j : Int)) none = xs.drop j := by
  unfold cutV
  have e1 : HT.sIx xs.length 0 (some (j : Int)) = min j xs.length := HT.sIx_nat _ _ j
  have e2 : HT.sIx xs.length xs.length none = xs.length := rfl
  rw [e1, e2, Nat.min_eq_left h]
  exact List.take_of_length_le (by rw [List.length_drop]; exact Nat.le_refl _)

theorem fn_ring (T : Tx K mg) (fd : FuncData) (F : FunD K "ring" "ring" (defArgs s_ring) (defBody s_ring) (defScope s_ring) [] [] (He.ga K "ring") fd) : FnOk P w K mg base CX0 7 (He.ga K "ring") fd ["dealings"] (spY (φ_ring K)) := by
  refine fnM F sc_ring (fun B vs L k h => by obtain ⟨_, _, rfl, _⟩ := h; rfl) (fun cdv A outer s H vs Q E B L e hz he hr S h => ?_)
  obtain ⟨a, rows, rfl, rfl, hin, k⟩ := h
  refine ⟨_, (pss_cons (ps_set (i := 1) sc_ring.nd rfl (.inr rfl) (pe_callO (ok_behind_of (K := K) T) hr (by rfl) (pa_cons (pv 0) pa_nil)))
      (pss_cons (ps_set (i := 2) sc_ring.nd rfl (.inr rfl) (pe_lock (pe_dc (own := [("one", 6)]) (by rfl) sc_ring.nd (pi_keys (pv 1)) (blkOk_by (own := [("one", 6)]) (N := ["dealings", "behind", "left", "many", "row", "at", "one", "other"]) (sc := defScope s_ring) (by decide +kernel)) (fun _ _ _ _ _ => (pg_name (i := 6) sc_ring.nd rfl (.inl rfl))) (fun _ _ _ _ _ => pts_nil) (fun _ _ _ _ _ => (pv 6)) (fun _ _ _ _ _ => pe_bl))))
      (pss_cons (ps_set (i := 3) sc_ring.nd rfl (.inl rfl) (pe_op (op_addU (K := K) rfl) (pe_callB (call_lenU (K := K) rfl) (by rfl) T.n_len (by decide +kernel) (pa_cons (pv 2) pa_nil)) pe_int))
      (pss_cons (ps_while PassesOwn.never (pt_cmpR op_ltU (pe_callB (call_lenU (K := K) rfl) (by rfl) T.n_len (by decide +kernel) (pa_cons (pv 2) pa_nil)) (pv 3) (nomark _))
      (pss_cons (ps_set (i := 3) sc_ring.nd rfl (.inl rfl) (pe_callB (call_lenU (K := K) rfl) (by rfl) T.n_len (by decide +kernel) (pa_cons (pv 2) pa_nil)))
      (pss_one (ps_set (i := 2) sc_ring.nd rfl (.inr rfl) (pe_lock (pe_dc (own := [("one", 6)]) (by rfl) sc_ring.nd (pi_keys (pv 2)) (blkOk_by (own := [("one", 6)]) (N := ["dealings", "behind", "left", "many", "row", "at", "one", "other"]) (sc := defScope s_ring) (by decide +kernel)) (fun _ _ _ _ _ => (pg_name (i := 6) sc_ring.nd rfl (.inl rfl))) (fun _ _ _ _ _ => (pts_one (pt_val (pe_callB (cr_anyU (K := K) rfl rfl) (by rfl) T.n_any (by decide +kernel) (pa_cons (pe_lc (own := [("other", 7)]) (by rfl) sc_ring.nd (pi_listK (K := K) rfl (pe_ix (ix_U (K := K) rfl (hu_of hr)) (pv 1) (pv 6) (fun _ _ => rfl))) (blkOk_by (own := [("other", 7)]) (N := ["dealings", "behind", "left", "many", "row", "at", "one", "other"]) (sc := { kind := .function, names := [(".0", .local), ("one", .local), ("any", .globalImplicit), ("behind", .cell), ("left", .cell)], isGenerator := false, isCoroutine := false }) (by decide +kernel)) (fun _ _ _ _ _ => (pg_name (i := 7) sc_ring.nd rfl (.inl rfl))) (fun _ _ _ _ _ => pts_nil) (fun _ _ _ _ _ => (pe_cmpR (op_inZ (K := K) rfl hr.units) (pv 7) (pv 2) (by rfl)))) pa_nil))))) (fun _ _ _ _ _ => (pv 6)) (fun _ _ _ _ _ => pe_bl)))))))
      (pss_cons (ps_if (pt_cmpR (op_eqDE hr.units) (pv 2) pe_dnewK (nomark _))
      (pss_one (ps_ret pe_non))
      pss_nil)
      (pss_cons (ps_set (i := 4) sc_ring.nd rfl (.inl rfl) (pe_lst (pa_cons (pe_callB (call_minZ (K := K) rfl rfl hr.units) (by rfl) T.n_min (by decide +kernel) (pa_cons (pv 2) pa_nil)) pa_nil)))
      (pss_cons (ps_set (i := 5) sc_ring.nd rfl (.inl rfl) (pe_callB (call_minZ (K := K) rfl rfl hr.units) (by rfl) T.n_min (by decide +kernel) (pa_cons (pe_lc (own := [("other", 7)]) (by rfl) sc_ring.nd (pi_listK (K := K) rfl (pe_ix (ix_U (K := K) rfl (hu_of hr)) (pv 1) (pe_ix (ix_U (K := K) rfl (hu_of hr)) (pv 4) pe_int (fun _ _ => rfl)) (fun _ _ => rfl))) (blkOk_by (own := [("other", 7)]) (N := ["dealings", "behind", "left", "many", "row", "at", "one", "other"]) (sc := defScope s_ring) (by decide +kernel)) (fun _ _ _ _ _ => (pg_name (i := 7) sc_ring.nd rfl (.inl rfl))) (fun _ _ _ _ _ => (pts_one (pt_cmpR (op_inZ (K := K) rfl hr.units) (pv 7) (pv 2) (by rfl)))) (fun _ _ _ _ _ => (pv 7))) pa_nil)))
      (pss_cons (ps_while PassesOwn.never (pt_cmpR (op_notInZ (K := K) rfl hr.units) (pv 5) (pv 4) (by rfl))
      (pss_cons (ps_expr (pe_bmK (K := K) (id := "list.append") rfl (pe_bm PySem.F.plainAttrs_list PySem.F.slot_list_append PySem.F.type_list_append mt_append (pv 4) (pa_cons (pv 5) pa_nil))))
      (pss_one (ps_set (i := 5) sc_ring.nd rfl (.inl rfl) (pe_callB (call_minZ (K := K) rfl rfl hr.units) (by rfl) T.n_min (by decide +kernel) (pa_cons (pe_lc (own := [("other", 7)]) (by rfl) sc_ring.nd (pi_listK (K := K) rfl (pe_ix (ix_U (K := K) rfl (hu_of hr)) (pv 1) (pv 5) (fun _ _ => rfl))) (blkOk_by (own := [("other", 7)]) (N := ["dealings", "behind", "left", "many", "row", "at", "one", "other"]) (sc := defScope s_ring) (by decide +kernel)) (fun _ _ _ _ _ => (pg_name (i := 7) sc_ring.nd rfl (.inl rfl))) (fun _ _ _ _ _ => (pts_one (pt_cmpR (op_inZ (K := K) rfl hr.units) (pv 7) (pv 2) (by rfl)))) (fun _ _ _ _ _ => (pv 7))) pa_nil))))))
      (pss_one (ps_ret (pe_slice (sl_U (K := K) rfl) (pv 4) (po_some (pe_bmK (K := K) (id := "list.index") rfl (pe_bm PySem.F.plainAttrs_list PySem.F.slot_list_index PySem.F.type_list_index (mt_indexK (K := K) rfl) (pv 4) (pa_cons (pv 5) pa_nil)))) po_none))))))))))), ?_⟩
  walk_at "yn"
  obtain ⟨zs, ok, hzl⟩ := hin.ok
  have hrl := ok.len
  walk_at "yn"
  refine y_sp0 S ⟨a, rows, rfl, rfl, hin, fun bd bs ts B1 hts bok hat b1 H T => ?_⟩
  obtain ⟨hbd0, S⟩ := S.backN0 T
  clear T
  obtain ⟨B2, b2, hbd, S⟩ := S.frz 0 rfl hbd0
  try simp only [List.eraseIdx] at S
  have hat : ∀ p ∈ bs, At (.list .int) K B2 (.ref p.at_) p.ns := fun p hp => (hat p hp).up b2
  have htl := ties_len ok hts
  have hsl : ∀ n, (succF ts n).length ≤ 10000 := fun n => by
    unfold succF
    rw [List.length_map]
    exact Nat.le_trans (List.length_filter_le _ _) htl
  have hbl : bs.length = rows.length := by
    have := congrArg List.length bok.kk
    rwa [List.length_map, List.length_map] at this
  walk_at "yn"
  refine y_lockX hz S hbd hbd0 fun od H e1 Q' he1 hH S hst hnx => ?_
  walk_at "yn"
  refine y_keysK hH ?_
  refine y_dcG walk_keys S (fun i B1 kvs L1 => kvs = leftK ((rows.map (·.num)).take i) ∧ L1 = []) ⟨rfl, rfl⟩ (fun i B1 H1 kvs L1 D hP b1 S1 => hst _ _ _ S1) (fun i x B1 H1 H1' kvs L1 D Kp Kn hi hP b1 hD S hy kp kn => ?_) (fun B3 H kvs L1 D hP b3 hD S => ?_)
  · obtain ⟨rfl, kk, vv, e2, rfl⟩ := hy
    obtain ⟨rfl, rfl⟩ := hP
    have e3 : (rows.map (·.num))[i]?.map (Sum.inl : Int → Key) = some kk := by
      rw [← bok.kk, List.getElem?_map]
      rw [List.getElem?_map] at e2
      cases q : bs[i]? with
      | none => rw [q] at e2; cases e2
      | some p => rw [q] at e2; cases e2; rfl
    obtain ⟨n, hn, rfl⟩ := Option.map_eq_some_iff.mp e3
    have htk : (rows.map (·.num)).take (i + 1) = (rows.map (·.num)).take i ++ [n] := by rw [List.take_add_one, hn]; rfl
    have hnn : n ∉ (rows.map (·.num)).take i := fun z => by
      have nd2 : ((rows.map (·.num)).take (i + 1)).Nodup := ok.nn.sublist (List.take_sublist _ _)
      rw [htk] at nd2
      exact (List.nodup_append.mp nd2).2.2 _ z _ (List.mem_singleton_self _) rfl
    walk_at "yn"
    refine kp (.inl n) _ B1 _ _ (lenLt (by rw [List.length_map, List.length_take, List.length_map]; omega)) b1 S ⟨?_, rfl⟩
    rw [leftK_put hnn, htk]
  obtain ⟨rfl, rfl⟩ := hP
  rw [List.length_map, show (rows.map (·.num)).take bs.length = rows.map (·.num) from List.take_of_length_le (by rw [List.length_map]; omega)] at S
  rw [he1] at hD
  refine hnx _ _ _ _ b3 S fun H S => ?_
  obtain ⟨B4, b4, hlf, S⟩ := S.frz 0 rfl hD
  try simp only [List.eraseIdx] at S
  walk_at "yn"
  refine y_lenD (S.rd hlf) ?_
  walk_at "yn"
  rw [show ((leftK (rows.map (·.num))).length : Int) + 1 = ((rows.length + 1 : Nat) : Int) by rw [List.length_map, List.length_map]; rfl]
  refine y_while (fun m σ H => ∃ (B5 : Hp) (lf : Addr) (l : List Int), (∃ (y4 y5 y6 y7 : Option V), σ = [some (.ref a), some (.ref bd), some (.ref lf), some (.int (m : Nat)), y4, y5, y6, y7]) ∧ Same B2 B5 ∧ Sy e B5 H [] ∧ B5 lf = some (.dK (leftK l)) ∧ e.H lf = none ∧ l.Nodup ∧ l.length ≤ 100 ∧ (∀ x ∈ l, x ∈ rows.map (·.num)) ∧ leftF ts l = leftF ts (rows.map (·.num)) ∧ l.length ≤ m ∧ (l.length = m → leftStep ts l = l)) (rows.length + 1) ⟨B4, D, rows.map (·.num), ⟨_, _, _, _, rfl⟩, b3.trans b4, S, hlf, hD, ok.nn, by rw [List.length_map]; exact hrl, fun x hx => hx, rfl, by rw [List.length_map]; omega, fun z => by rw [List.length_map] at z; omega⟩ ?_
  clear S hlf hD
  rintro m σ H ⟨B5, lf, l, ⟨y4, y5, y6, y7, rfl⟩, b5, S, hlf, hlf0, lnd, ll, lin, lF, lm, lfix⟩ QT hQT
  walk_at "yy"
  refine y_lenD (S.rd hlf) ?_
  walk_at "yy"
  refine hQT _ _ ?_
  rw [List.length_map]
  refine y_ite (fun hc => ?_) (fun hc => ?_)
  · walk_at "yy"
    refine y_lenD (S.rd hlf) ?_
    walk_at "yy"
    rw [List.length_map]
    refine y_lockX hz S hlf hlf0 fun od H e1 Q' he1 hH S hst hnx => ?_
    walk_at "yn"
    refine y_keysK hH ?_
    refine y_dcG walk_keys S (fun i B6 kvs L1 => kvs = leftK ((l.take i).filter fun one => (succF ts one).any fun o => decide (o ∈ l)) ∧ L1 = []) ⟨rfl, rfl⟩ (fun i B6 H1 kvs L1 D hP b6 S1 => hst _ _ _ S1) (fun i x B6 H1 H1' kvs L1 D Kp Kn hi hP b6 hD S hy kp kn => ?_) (fun B6 H kvs L1 D hP b6 hD S => ?_)
    · obtain ⟨rfl, kk, vv, e2, rfl⟩ := hy
      obtain ⟨rfl, rfl⟩ := hP
      rw [List.getElem?_map] at e2
      obtain ⟨n, hn, e3⟩ := Option.map_eq_some_iff.mp e2
      cases e3
      have hnl : n ∈ l := List.mem_of_getElem? hn
      have htk : l.take (i + 1) = l.take i ++ [n] := by rw [List.take_add_one, hn]; rfl
      have hnn : n ∉ (l.take i).filter fun one => (succF ts one).any fun o => decide (o ∈ l) := fun z => by
        have z := (List.mem_filter.mp z).1
        have nd2 : (l.take (i + 1)).Nodup := lnd.sublist (List.take_sublist _ _)
        rw [htk] at nd2
        exact (List.nodup_append.mp nd2).2.2 _ z _ (List.mem_singleton_self _) rfl
      obtain ⟨j, p, hpj, hpn, hval⟩ := bok.find (lin n hnl)
      have hpm : p ∈ bs := List.mem_of_getElem? hpj
      have hpns : p.ns = succF ts n := by rw [bok.ns p hpm, hpn]
      have hlist : At (.list .int) K B6 (.ref p.at_) (succF ts n) := by rw [← hpns]; exact (hat p hpm).up (b5.trans b6)
      obtain ⟨lv, hlv, -⟩ := at_list_ref hlist
      have hs4 := hsl n
      walk_at "yn"
      refine y_ixD (k := .inl n) (S.rd (b6 _ _ (b5 _ _ hbd))) rfl hval ?_
      walk_at "yn"
      refine y_lcI (cx := .int) (cy := .bool) (fun o => some (decide (o ∈ l))) S hlist (by omega) (fun i2 z x B7 H7 D2 acc Kp2 Kn2 hz2 b7 hx S kp2 kn2 => ?_) (fun D2 B7 H b7 hD2 hl2 S => ?_)
      · have e1 := at_int hx
        subst e1
        walk_at "yn"
        refine z_inD (k := .inl z) (S.rd (b7 _ _ (b6 _ _ hlf))) rfl ?_
        rw [leftK_val]
        exact kp2 _ _ _ _ rfl (Same.refl _) .bool S
      rw [fm_some] at hl2
      obtain ⟨vb, qb, pb⟩ := at_list_ref hl2
      have e1 := bools_of pb
      subst e1
      walk_at "yn"
      refine y_any (S.l qb) ?_
      rw [map_any]
      walk_at "yn"
      refine y_iteB (fun hc2 => ?_) (fun hc2 => ?_)
      · walk_at "yn"
        refine kp (.inl n) _ B7 _ _ (lenLt (by
          rw [List.length_map]
          have h1 := List.length_filter_le (fun one => (succF ts one).any fun o => decide (o ∈ l)) (l.take i)
          rw [List.length_take] at h1
          omega)) (b6.trans b7) S ⟨?_, rfl⟩
        rw [leftK_put hnn, htk, List.filter_append]
        congr 2
        rw [List.filter_cons, if_pos hc2]
        rfl
      · refine kn B7 _ _ (b6.trans b7) S ⟨?_, rfl⟩
        rw [htk, List.filter_append]
        have : [n].filter (fun one => (succF ts one).any fun o => decide (o ∈ l)) = [] := by
          rw [List.filter_cons, if_neg (by rw [hc2]; simp)]
          rfl
        rw [this, List.append_nil]
    obtain ⟨rfl, rfl⟩ := hP
    rw [List.length_map, List.take_length] at S
    rw [he1] at hD
    refine hnx _ _ _ _ b6 S fun H S => ?_
    obtain ⟨B7, b7, hlf7, S⟩ := S.frz 0 rfl hD
    try simp only [List.eraseIdx] at S
    walk_at "yn"
    refine ⟨l.length, by omega, B7, D, leftStep ts l, ⟨_, _, _, _, rfl⟩, b5.trans (b6.trans b7), S, hlf7, hD, lnd.sublist List.filter_sublist, Nat.le_trans leftStep_len ll, fun x hx => lin x (List.mem_filter.mp hx).1, leftF_step.trans lF, leftStep_len, fun z => ?_⟩
    have := leftStep_fix z
    rw [this, this]
  · have hfix := lfix (by omega)
    have lF2 : leftF ts (rows.map (·.num)) = l := by rw [← lF]; exact leftF_fix hfix
    walk_at "yy"
    refine y_newM S fun q H hq0 S => ?_
    walk_at "yn"
    refine ⟨lf, q, leftK l, rfl, rfl, S.rd hlf, S.at 0 rfl, ?_⟩
    walk_at "yy"
    replace S := S.tail
    refine y_iteB (fun he => ?_) (fun he => ?_)
    · have hl0 : l = [] := by
        cases l with
        | nil => rfl
        | cons _ _ => cases he
      walk_at "yn"
      exact (k ts B5 hts (by walk_at "up")).1 (by rw [lF2, hl0]) _ S
    have hlne : l ≠ [] := fun z => by rw [z] at he; cases he
    walk_at "yn"
    refine .inr (.inr (.inl ⟨lf, leftK l, l, rfl, S.rd hlf, by rw [List.map_map]; rfl, List.length_pos_iff.mpr hlne, fun m0 hm0l _ => ?_⟩))
    walk_at "yn"
    refine y_newM S fun rw H hrw0 S => ?_
    walk_at "yn"
    obtain ⟨j, p, hpj, hpn, hval⟩ := bok.find (lin m0 hm0l)
    have hpm : p ∈ bs := List.mem_of_getElem? hpj
    have hpns : p.ns = succF ts m0 := by rw [bok.ns p hpm, hpn]
    have hlist : At (.list .int) K B5 (.ref p.at_) (succF ts m0) := by rw [← hpns]; exact At.up (by walk_at "up") (hat p hpm)
    obtain ⟨lv, hlv, -⟩ := at_list_ref hlist
    have hs4 := hsl m0
    refine y_ixD (k := .inl m0) (S.rd (up_o (by walk_at "up") hbd)) rfl hval ?_
    walk_at "yn"
    refine y_lcI (cx := .int) (cy := .int) (fun o => if decide (o ∈ l) = true then some o else none) S hlist (by omega) (fun i2 z x B7 H7 D2 acc Kp2 Kn2 hz2 b7 hx S kp2 kn2 => ?_) (fun D2 B7 H b7 hD2 hl2 S => ?_)
    · have e1 := at_int hx
      subst e1
      walk_at "yn"
      refine z_inD (k := .inl z) (S.rd (up_o (by walk_at "up") hlf)) rfl ?_
      rw [leftK_val]
      walk_at "yn"
      refine y_ite (fun hc2 => ?_) (fun hc2 => ?_)
      · walk_at "yn"
        exact kp2 _ _ _ _ (if_pos (decide_eq_true hc2)) (Same.refl _) .int S
      · exact kn2 _ _ (if_neg (by simp [hc2])) (Same.refl _) S
    rw [fm_if] at hl2
    obtain ⟨vb, qb, pb⟩ := at_list_ref hl2
    have e1 := ints_of pb
    subst e1
    walk_at "yn"
    refine .inr (.inl ⟨D2, _, rfl, S.l qb, left_next hfix hm0l, fun at_ hat_ _ => ?_⟩)
    obtain ⟨hat1, hat2⟩ := List.mem_filter.mp hat_
    have hat2 := of_decide_eq_true hat2
    have hatt := succ_tie hat1
    walk_at "yn"
    refine y_while (fun m σ H => ∃ (B6 : Hp) (path : List Int) (at_ : Int), (∃ (y3 y6 y7 : Option V), σ = [some (.ref a), some (.ref bd), some (.ref lf), y3, some (.ref rw), some (.int at_), y6, y7]) ∧ Same B5 B6 ∧ Sy e B6 H [(rw, .lst (path.map V.int))] ∧ path.Nodup ∧ (∀ x ∈ path, x ∈ l) ∧ at_ ∈ l ∧ Linked ts path ∧ (∀ z, path.getLast? = some z → (z, at_) ∈ ts) ∧ m + path.length = l.length + 1) l.length ⟨B7, [m0], at_, ⟨_, _, _, rfl⟩, b7, S, by simp, fun x hx => by rw [List.mem_singleton.mp hx]; exact hm0l, hat2, fun i x y h1 h2 => by simp at h2, fun z hz => by cases hz; exact hatt, by simp⟩ ?_
    clear S hatt hat1 hat2
    rintro m σ H ⟨B6, path, at_, ⟨y3, y6, y7, rfl⟩, b6, S, pnd, pin, hal, plk, pla, pm⟩ QT hQT
    walk_at "yy"
    refine y_notInN (sqL (S.at 0 rfl)) ?_
    walk_at "yy"
    refine hQT _ _ ?_
    refine y_iteN (fun hc => ?_) (fun hc => ?_)
    · have hpl : (path ++ [at_]).length ≤ l.length := len_le_of (List.nodup_append.mpr ⟨pnd, by simp, fun x hx y hy hxy => by rw [List.mem_singleton] at hy; rw [hxy, hy] at hx; exact hc hx⟩) fun x hx => by
        rcases List.mem_append.mp hx with hx | hx
        · exact pin x hx
        · rw [List.mem_singleton.mp hx]; exact hal
      rw [List.length_append, List.length_singleton] at hpl
      walk_at "yn"
      refine y_app 0 S rfl (lenLt (by first | omega | (simp <;> omega))) fun H S => ?_
      try simp only [List.set] at S
      walk_at "yn"
      rw [show path.map V.int ++ [V.int at_] = (path ++ [at_]).map V.int by rw [List.map_append]; rfl] at S
      have hnl : at_ ∈ l := hal
      obtain ⟨j, p, hpj, hpn, hval⟩ := bok.find (lin at_ hal)
      have hpm : p ∈ bs := List.mem_of_getElem? hpj
      have hpns : p.ns = succF ts at_ := by rw [bok.ns p hpm, hpn]
      have hlist : At (.list .int) K B6 (.ref p.at_) (succF ts at_) := by rw [← hpns]; exact At.up (by walk_at "up") (hat p hpm)
      obtain ⟨lv, hlv, -⟩ := at_list_ref hlist
      have hs4 := hsl at_
      refine y_ixD (k := .inl at_) (S.rd (up_o (by walk_at "up") hbd)) rfl hval ?_
      walk_at "yn"
      refine y_lcI (cx := .int) (cy := .int) (fun o => if decide (o ∈ l) = true then some o else none) S hlist (by omega) (fun i2 z x B7 H7 D2 acc Kp2 Kn2 hz2 b7 hx S kp2 kn2 => ?_) (fun D2 B7 H b7 hD2 hl2 S => ?_)
      · have e1 := at_int hx
        subst e1
        walk_at "yn"
        refine z_inD (k := .inl z) (S.rd (up_o (by walk_at "up") hlf)) rfl ?_
        rw [leftK_val]
        walk_at "yn"
        refine y_ite (fun hc2 => ?_) (fun hc2 => ?_)
        · walk_at "yn"
          exact kp2 _ _ _ _ (if_pos (decide_eq_true hc2)) (Same.refl _) .int S
        · exact kn2 _ _ (if_neg (by simp [hc2])) (Same.refl _) S
      rw [fm_if] at hl2
      obtain ⟨vb, qb, pb⟩ := at_list_ref hl2
      have e1 := ints_of pb
      subst e1
      walk_at "yn"
      refine .inr (.inl ⟨D2, _, rfl, S.l qb, left_next hfix hal, fun at2 hat_ _ => ?_⟩)
      obtain ⟨hat1, hat2⟩ := List.mem_filter.mp hat_
      have hat2 := of_decide_eq_true hat2
      have hatt := succ_tie hat1
      walk_at "yn"
      refine ⟨m - 1, by omega, B7, path ++ [at_], at2, ⟨_, _, _, rfl⟩, by walk_at "up", S, ?_, fun x hx => ?_, hat2, fun i x y h1 h2 => ?_, fun z hz => ?_, by rw [List.length_append, List.length_singleton]; omega⟩
      · exact List.nodup_append.mpr ⟨pnd, by simp, fun x hx y hy hxy => by rw [List.mem_singleton] at hy; rw [hxy, hy] at hx; exact hc hx⟩
      · rcases List.mem_append.mp hx with hx | hx
        · exact pin x hx
        · rw [List.mem_singleton.mp hx]; exact hal
      · by_cases c : i + 1 < path.length
        · rw [List.getElem?_append_left (by omega)] at h1
          rw [List.getElem?_append_left c] at h2
          exact plk i x y h1 h2
        · have h3 : i + 1 < (path ++ [at_]).length := (List.getElem?_eq_some_iff.mp h2).1
          rw [List.length_append, List.length_singleton] at h3
          have h4 : i + 1 = path.length := by omega
          rw [List.getElem?_append_left (by omega)] at h1
          rw [h4, List.getElem?_append_right (Nat.le_refl _), Nat.sub_self] at h2
          cases h2
          refine pla x ?_
          rw [List.getLast?_eq_getElem?, ← h1]
          congr 1
          omega
      · rw [List.getLast?_concat] at hz
        cases hz
        exact hatt
    · obtain ⟨j, hj⟩ := List.mem_iff_getElem?.mp hc
      have hjl : j < path.length := (List.getElem?_eq_some_iff.mp hj).1
      walk_at "yn"
      refine ⟨rw, path.map V.int, .int at_, j, .int at_, rfl, rfl, sqL (S.at 0 rfl), rfl, flat_ints, by rw [List.getElem?_map, hj]; rfl, by show (at_ == at_) = true; simp, fun m2 z2 hm2 hz2 => ?_, ?_⟩
      · rw [List.getElem?_map] at hz2
        obtain ⟨x, hx, rfl⟩ := Option.map_eq_some_iff.mp hz2
        show (x == at_) = false
        rw [beq_eq_false_iff_ne]
        intro e
        rw [e] at hx
        have : m2 = j := (List.getElem?_inj (by omega) pnd).mp (by rw [hx, hj])
        omega
      walk_at "yn"
      refine y_slL (sqL (S.at 0 rfl)) ?_
      rw [cutFrom _ (by rw [List.length_map]; omega), ← List.map_drop]
      refine y_newM S fun r H hr0 S => ?_
      exact (k ts B6 hts (by walk_at "up")).2 r (path.drop j) (by rw [lF2]; exact hlne) (ring_of pnd plk pla hj) _ S.drop1
theorem ok_ring (T : Tx K mg) : Ok P w K mg base 7 "ring" ["dealings"] (spY (φ_ring K)) :=
  Ok.of T.F_ring T.g_ring (fun _ _ _ _ _ _ us hl => match us, hl with | [_], _ => rfl) (fn_ring T)

/-! ### orders in plain words -/
def NoPred (ts : List (Int × Int)) (left : List Int) (x : Int) : Prop := ∀ t ∈ ts, t.2 = x → t.1 ∉ left
structure IsNext (ts : List (Int × Int)) (pl : Int → Int) (left : List Int) (x : Int) : Prop where
  mem : x ∈ left
  np : NoPred ts left x
  least : ∀ y ∈ left, NoPred ts left y → leT (pl x, x) (pl y, y) = true
theorem IsNext.uniq {ts : List (Int × Int)} {pl : Int → Int} {left : List Int} {x y : Int} (h : IsNext ts pl left x) (g : IsNext ts pl left y) : x = y := by
  have := leT_anti (h.least y g.mem g.np) (g.least x h.mem h.np)
  injection this
/-- the order of what is left, or that there is none -/
inductive Ord (ts : List (Int × Int)) (pl : Int → Int) : List Int → Option (List Int) → Prop where
  | done : Ord ts pl [] (some [])
  | stuck {left : List Int} (h : left ≠ []) (hs : ∀ x ∈ left, ¬ NoPred ts left x) : Ord ts pl left none
  | step {left : List Int} {x : Int} {o : Option (List Int)} (h : IsNext ts pl left x) (r : Ord ts pl (left.filter fun y => !decide (y = x)) o) : Ord ts pl left (o.map (x :: ·))
theorem Ord.uniq {ts : List (Int × Int)} {pl : Int → Int} {left : List Int} {o o' : Option (List Int)} (h : Ord ts pl left o) (g : Ord ts pl left o') : o = o' := by
  induction h generalizing o' with
  | done =>
    cases g with
    | done => rfl
    | stuck h _ => exact absurd rfl h
    | step h _ => exact absurd h.mem (by simp)
  | stuck hne hs =>
    cases g with
    | done => exact absurd rfl hne
    | stuck _ _ => rfl
    | step h _ => exact absurd h.np (hs _ h.mem)
  | step hx _ ih =>
    cases g with
    | done => exact absurd hx.mem (by simp)
    | stuck _ hs => exact absurd hx.np (hs _ hx.mem)
    | step hy r =>
      have e := hx.uniq hy
      subst e
      rw [ih r]
/-- in an order each is there once and every tie leads forward -/
theorem Ord.good {ts : List (Int × Int)} {pl : Int → Int} {left l : List Int} (h : Ord ts pl left (some l)) (nd : left.Nodup) : l.Perm left ∧ ∀ a b, (a, b) ∈ ts → a ∈ left → b ∈ left → l.idxOf a < l.idxOf b := by
  generalize ho : some l = o at h
  induction h generalizing l with
  | done =>
    cases ho
    exact ⟨.refl _, fun a b _ h => by cases h⟩
  | stuck => cases ho
  | @step left x o hx r ih =>
    cases o with
    | none => cases ho
    | some m =>
      cases ho
      have nd2 : (left.filter fun y => !decide (y = x)).Nodup := nd.sublist List.filter_sublist
      obtain ⟨p1, p2⟩ := ih nd2 rfl
      have mem2 : ∀ y, y ∈ left.filter (fun y => !decide (y = x)) ↔ y ∈ left ∧ y ≠ x := fun y => by rw [List.mem_filter]; simp
      have pm : (x :: m).Perm left := by
        refine (p1.cons x).trans ((List.perm_ext_iff_of_nodup (List.nodup_cons.mpr ⟨fun z => ((mem2 x).mp z).2 rfl, nd2⟩) nd).mpr fun y => ?_)
        rw [List.mem_cons, mem2]
        constructor
        · rintro (rfl | h)
          · exact hx.mem
          · exact h.1
        · intro h
          by_cases c : y = x
          · exact .inl c
          · exact .inr ⟨h, c⟩
      refine ⟨pm, fun a b hab ha hb => ?_⟩
      have hbx : b ≠ x := fun z => hx.np (a, b) hab z ha
      by_cases c : a = x
      · subst c
        have e1 : (a == b) = false := beq_eq_false_iff_ne.mpr fun z => hbx z.symm
        rw [List.idxOf_cons_self, List.idxOf_cons, e1]
        exact Nat.succ_pos _
      · have := p2 a b hab ((mem2 a).mpr ⟨ha, c⟩) ((mem2 b).mpr ⟨hb, hbx⟩)
        have e1 : (x == a) = false := beq_eq_false_iff_ne.mpr fun z => c z.symm
        have e2 : (x == b) = false := beq_eq_false_iff_ne.mpr fun z => hbx z.symm
        rw [List.idxOf_cons, List.idxOf_cons, e1, e2]
        exact Nat.succ_lt_succ this
/-- how many of those ahead of one are not yet there -/
def lackN (ts : List (Int × Int)) (row : List Int) (n : Int) : Nat := (ts.filter fun t => decide (t.2 = n) && !decide (t.1 ∈ row)).length
theorem lack_zero {ts : List (Int × Int)} {row : List Int} {n : Int} : lackN ts row n = 0 ↔ ∀ t ∈ ts, t.2 = n → t.1 ∈ row := by
  unfold lackN
  rw [List.length_eq_zero_iff, List.filter_eq_nil_iff]
  constructor
  · intro h t ht e
    have := h t ht
    simp [e] at this
    exact this
  · intro h t ht
    simp
    exact h t ht
theorem lack_more {row : List Int} {one n : Int} (hone : one ∉ row) : ∀ {ts : List (Int × Int)}, ts.Nodup → lackN ts row n = lackN ts (row ++ [one]) n + if (one, n) ∈ ts then 1 else 0
  | [], _ => by simp [lackN]
  | t :: ts, nd => by
    obtain ⟨h1, h2⟩ := List.nodup_cons.mp nd
    have ih := lack_more (n := n) hone h2
    unfold lackN at *
    rw [List.filter_cons, List.filter_cons]
    by_cases c1 : t.2 = n
    · by_cases c2 : t.1 = one
      · have e : t = (one, n) := Prod.ext c2 c1
        subst e
        rw [if_pos (by simp [hone]), if_neg (by simp), if_pos List.mem_cons_self, List.length_cons, ih, if_neg h1]
      · have e : (one, n) ∈ t :: ts ↔ (one, n) ∈ ts := by
          rw [List.mem_cons]
          exact ⟨fun h => h.resolve_left fun z => c2 (by rw [← z]), .inr⟩
        simp only [e]
        by_cases c3 : t.1 ∈ row
        · rw [if_neg (by simp [c3]), if_neg (by simp [c3])]
          exact ih
        · rw [if_pos (by simp [c1, c3]), if_pos (by simp [c1, c2, c3]), List.length_cons, List.length_cons, ih]
          omega
    · have e : (one, n) ∈ t :: ts ↔ (one, n) ∈ ts := by
        rw [List.mem_cons]
        exact ⟨fun h => h.resolve_left fun z => c1 (by rw [← z]), .inr⟩
      simp only [e]
      rw [if_neg (by simp [c1]), if_neg (by simp [c1])]
      exact ih
theorem succ_iff {ts : List (Int × Int)} {n o : Int} : o ∈ succF ts n ↔ (n, o) ∈ ts := by
  refine ⟨succ_tie, fun h => ?_⟩
  unfold succF
  exact List.mem_map.mpr ⟨(n, o), List.mem_filter.mpr ⟨h, by simp⟩, rfl⟩
theorem succ_nodup {ts : List (Int × Int)} {n : Int} (nd : ts.Nodup) : (succF ts n).Nodup := by
  unfold succF
  refine List.pairwise_map.mpr ((nd.sublist List.filter_sublist).imp_of_mem fun {a b} ha hb hne e => hne ?_)
  have h1 := of_decide_eq_true (List.mem_filter.mp ha).2
  have h2 := of_decide_eq_true (List.mem_filter.mp hb).2
  exact Prod.ext (h1.trans h2.symm) e
/-- a table of counts -/
abbrev lkK (ns : List Int) (c : Int → Int) : List (Key × V) := ns.map fun n => (.inl n, .int (c n))
theorem lk_val {ns : List Int} {c : Int → Int} {n : Int} (h : n ∈ ns) : valV (lkK ns c) (.inl n) = some (.int (c n)) := by
  induction ns with
  | nil => cases h
  | cons a ns ih =>
    unfold lkK at *
    rw [List.map_cons]
    by_cases e : a = n
    · subst e
      rw [valV_pos (show (Sum.inl a : Key) = .inl a from rfl)]
    · rw [valV_neg (show ¬ (Sum.inl a : Key) = .inl n from fun z => e (Sum.inl.inj z))]
      exact ih ((List.mem_cons.mp h).resolve_left fun z => e z.symm)
theorem lk_put {ns : List Int} {c : Int → Int} {n v : Int} (h : n ∈ ns) : putK (lkK ns c) (.inl n) (.int v) = lkK ns fun x => if x = n then v else c x := by
  unfold putK
  rw [if_pos (by rw [valV_any, lk_val h]; rfl)]
  unfold lkK
  rw [List.map_map]
  apply List.map_congr_left
  intro x _
  show (if (Sum.inl x : Key) = .inl n then _ else _) = _
  by_cases e : x = n
  · rw [if_pos (by rw [e])]
    show (Sum.inl x, V.int v) = (Sum.inl x, V.int (if x = n then v else c x))
    rw [if_pos e]
  · rw [if_neg (fun z => e (Sum.inl.inj z))]
    show _ = (Sum.inl x, V.int (if x = n then v else c x))
    rw [if_neg e]
/-- a name let go of -/
theorem leftK_drop {l : List Int} {n : Int} : dropK (leftK l) (.inl n) = leftK (l.filter fun y => !decide (y = n)) := by
  unfold dropK leftK
  rw [List.filter_map]
  congr 1
  apply List.filter_congr
  intro x _
  simp
/-- places by numbers -/
def plOf (rows : List Dl) (n : Int) : Int := (look (rows.map fun r => (r.num, r.place)) n).getD 0
theorem pl_look {rows : List Dl} {n : Int} (h : n ∈ rows.map (·.num)) : look (rows.map fun r => (r.num, r.place)) n = some (plOf rows n) := by
  unfold plOf
  cases q : look (rows.map fun r => (r.num, r.place)) n with
  | some v => rfl
  | none =>
    rw [look_none, List.map_map] at q
    exact absurd h q
/-! ### a dict of the ledger, held for a while -/
theorem Sy.thaw {e : En} {B H : Hp} {L : Led} {d : Addr} {u : HO} (S : Sy e B H L) (hB : B d = some u) (hH : H d = some u) (hn : e.H d = none) (he : e.B d = none) (hz : d ∉ e.Z.map (·.1)) (nt : NT u) : Sy e (less B [(d, u)]) H ((d, u) :: L) := by
  have out : ∀ {a o}, less B [(d, u)] a = some o → a ≠ d ∧ B a = some o := fun {a o} h => by
    unfold less at h
    by_cases c : a ∈ [(d, u)].map (·.1)
    · rw [if_pos c] at h; cases h
    · rw [if_neg c] at h
      exact ⟨fun z => c (by rw [z]; simp), h⟩
  have ins : ∀ {a}, a ≠ d → less B [(d, u)] a = B a := fun {a} h => by
    unfold less
    rw [if_neg (by simpa using h)]
  refine ⟨fun a o q => ?_, fun a o q => S.bh a o (out q).2, fun p hp => ?_, ?_, S.keep, fun a q1 q2 => ?_, S.there, S.zin, fun a o q hk => S.lk a o (out q).2 hk, fun p hp => ?_⟩
  · have ne : a ≠ d := fun z => by rw [z, he] at q; cases q
    rw [ins ne]
    exact S.b0 a o q
  · rcases List.mem_cons.mp hp with rfl | hp
    · exact ⟨hH, by unfold less; rw [if_pos (by simp)], .inr hn, hz⟩
    · obtain ⟨h1, h2, h3, h4⟩ := S.led p hp
      have ne : p.1 ≠ d := fun z => by rw [z, hB] at h2; cases h2
      exact ⟨h1, by rw [ins ne]; exact h2, h3, h4⟩
  · rw [List.map_cons]
    refine List.nodup_cons.mpr ⟨fun z => ?_, S.nd⟩
    obtain ⟨p, hp, e1⟩ := List.mem_map.mp z
    have := (S.led p hp).2.1
    rw [show p.1 = d from e1, hB] at this
    cases this
  · have ne : a ≠ d := fun z => by rw [z] at q1; exact q1 hn
    rw [ins ne]
    exact S.fresh a q1 q2
  · rcases List.mem_cons.mp hp with rfl | hp
    · exact nt
    · exact S.nt p hp
theorem same_less {B1 B : Hp} {d : Addr} {u : HO} (h : Same B1 B) (h0 : B1 d = none) : Same B1 (less B [(d, u)]) := fun a o q => by
  unfold less
  rw [if_neg (by simp; intro z; rw [z, h0] at q; cases q)]
  exact h a o q
theorem sqT_less {B : Hp} {d a : Addr} {kvs : List (Key × V)} {xs : List V} (hB : B d = some (.dK kvs)) (h : SqT K B a xs) : SqT K (less B [(d, .dK kvs)]) a xs := by
  rcases h with h | h
  · have ne : a ≠ d := fun z => by
      rw [z] at h
      rcases h with h | ⟨_, h⟩ <;> (rw [hB] at h; cases h)
    refine .inl ?_
    have e : less B [(d, .dK kvs)] a = B a := by
      unfold less
      rw [if_neg (by simpa using ne)]
    rcases h with h | ⟨ob, h⟩
    · exact .inl (by rw [e]; exact h)
    · exact .inr ⟨ob, by rw [e]; exact h⟩
  · exact .inr h
/-! ### d[k] += n, d.pop(k), d[k] = v -/
theorem y_daug {td ty tv : TE} {rd : V → V → Hp → VK → Prop} {nx bk ct : L2.St → Hp → Prop} {rt : VK} {σ : L2.St} {H : Hp} (h : td σ H fun x H1 => ty σ H1 fun y H2 => ∃ a v, x = .ref a ∧ DGet H2 a y (some v) ∧ tv σ H2 fun z H3 => rd v z H3 fun r H4 => ∃ H5, DPut H4 a y r H5 ∧ nx σ H5) : sDAug td ty tv rd ⟨nx, rt, bk, ct⟩ σ H := h
theorem lk_new {ns : List Int} {n : Int} (h : n ∉ ns) : putK (lkK ns (fun _ => 0)) (.inl n) (.int 0) = lkK (ns ++ [n]) (fun _ => 0) := by
  have h1 : valV (lkK ns (fun _ => 0)) (.inl n) = none := by
    induction ns with
    | nil => rfl
    | cons a ns ih =>
      unfold lkK at *
      rw [List.map_cons, valV_neg (show ¬ (Sum.inl a : Key) = .inl n from fun z => h (by rw [Sum.inl.inj z]; exact List.mem_cons_self))]
      exact ih fun z => h (List.mem_cons_of_mem _ z)
  rw [putK_new _ h1]
  unfold lkK
  rw [List.map_append]
  rfl
def cntN (ts : List (Int × Int)) (seen : List Int) (n : Int) : Nat := (ts.filter fun t => decide (t.2 = n) && decide (t.1 ∈ seen)).length
theorem cnt_more {seen : List Int} {one n : Int} (hone : one ∉ seen) : ∀ {ts : List (Int × Int)}, ts.Nodup → cntN ts (seen ++ [one]) n = cntN ts seen n + if (one, n) ∈ ts then 1 else 0
  | [], _ => by simp [cntN]
  | t :: ts, nd => by
    obtain ⟨h1, h2⟩ := List.nodup_cons.mp nd
    have ih := cnt_more (n := n) hone h2
    unfold cntN at *
    rw [List.filter_cons, List.filter_cons]
    by_cases c1 : t.2 = n
    · by_cases c2 : t.1 = one
      · have e : t = (one, n) := Prod.ext c2 c1
        subst e
        rw [if_pos (by simp), if_neg (by simp [hone]), if_pos List.mem_cons_self, List.length_cons, ih, if_neg h1]
      · have e : (one, n) ∈ t :: ts ↔ (one, n) ∈ ts := by
          rw [List.mem_cons]
          exact ⟨fun h => h.resolve_left fun z => c2 (by rw [← z]), .inr⟩
        simp only [e]
        by_cases c3 : t.1 ∈ seen
        · rw [if_pos (by simp [c1, c3]), if_pos (by simp [c1, c3]), List.length_cons, List.length_cons, ih]
          omega
        · rw [if_neg (by simp [c2, c3]), if_neg (by simp [c3])]
          exact ih
    · have e : (one, n) ∈ t :: ts ↔ (one, n) ∈ ts := by
        rw [List.mem_cons]
        exact ⟨fun h => h.resolve_left fun z => c1 (by rw [← z]), .inr⟩
      simp only [e]
      rw [if_neg (by simp [c1]), if_neg (by simp [c1])]
      exact ih
theorem cnt_all {ts : List (Int × Int)} {ns : List Int} (h : ∀ t ∈ ts, t.1 ∈ ns) (n : Int) : cntN ts ns n = lackN ts [] n := by
  unfold cntN lackN
  congr 1
  apply List.filter_congr
  intro t ht
  simp [h t ht]
structure OrdInv (ts : List (Int × Int)) (pl : Int → Int) (ns row M : List Int) (c : Int → Int) : Prop where
  rnd : row.Nodup
  rin : ∀ x ∈ row, x ∈ ns
  mnd : M.Nodup
  mm : ∀ x, x ∈ M ↔ x ∈ ns ∧ x ∉ row ∧ lackN ts row x = 0
  cc : ∀ x ∈ ns, c x = lackN ts row x
  rz : ∀ x ∈ row, lackN ts row x = 0
  rel : ∀ o, Ord ts pl (ns.filter fun x => !decide (x ∈ row)) o → Ord ts pl ns (o.map (row ++ ·))
section
variable {ts : List (Int × Int)} {pl : Int → Int} {ns row M : List Int} {c : Int → Int} {one : Int}
theorem OrdInv.start (hc : ∀ x ∈ ns, c x = lackN ts [] x) (nd : ns.Nodup) : OrdInv ts pl ns [] (ns.filter fun n => decide (lackN ts [] n = 0)) c := by
  refine ⟨by simp, by simp, nd.sublist List.filter_sublist, fun x => by rw [List.mem_filter]; simp, hc, by simp, fun o h => ?_⟩
  have e1 : (ns.filter fun x => !decide (x ∈ ([] : List Int))) = ns := List.filter_eq_self.mpr fun x _ => by simp
  rw [e1] at h
  have e2 : o.map (([] : List Int) ++ ·) = o := by cases o <;> simp
  rw [e2]
  exact h
theorem OrdInv.np (h : OrdInv ts pl ns row M c) (hin : ∀ t ∈ ts, t.1 ∈ ns) {x : Int} : NoPred ts (ns.filter fun x => !decide (x ∈ row)) x ↔ lackN ts row x = 0 := by
  rw [lack_zero]
  unfold NoPred
  constructor
  · intro g t ht e
    have := g t ht e
    rw [List.mem_filter] at this
    simp only [hin t ht, true_and, Bool.not_eq_true', decide_eq_false_iff_not, Classical.not_not] at this
    exact this
  · intro g t ht e z
    rw [List.mem_filter] at z
    simp only [Bool.not_eq_true', decide_eq_false_iff_not] at z
    exact z.2 (g t ht e)
theorem OrdInv.next (h : OrdInv ts pl ns row M c) (hin : ∀ t ∈ ts, t.1 ∈ ns) (hm : one ∈ M) (least : ∀ y ∈ M, leT (pl one, one) (pl y, y) = true) : IsNext ts pl (ns.filter fun x => !decide (x ∈ row)) one := by
  obtain ⟨h1, h2, h3⟩ := (h.mm one).mp hm
  refine ⟨List.mem_filter.mpr ⟨h1, by simp [h2]⟩, (h.np hin).mpr h3, fun y hy hn => least y ((h.mm y).mpr ⟨(List.mem_filter.mp hy).1, by simpa using (List.mem_filter.mp hy).2, (h.np hin).mp hn⟩)⟩
theorem OrdInv.step (h : OrdInv ts pl ns row M c) (hin : ∀ t ∈ ts, t.1 ∈ ns ∧ t.2 ∈ ns) (tnd : ts.Nodup) (hm : one ∈ M) (least : ∀ y ∈ M, leT (pl one, one) (pl y, y) = true) {M' : List Int} {c' : Int → Int} (mnd : M'.Nodup)
    (hM : ∀ x, x ∈ M' ↔ (x ∈ M ∧ x ≠ one) ∨ (x ∈ succF ts one ∧ lackN ts row x = 1)) (hc : ∀ x ∈ ns, c' x = lackN ts row x - if x ∈ succF ts one then 1 else 0) : OrdInv ts pl ns (row ++ [one]) M' c' := by
  obtain ⟨h1, h2, h3⟩ := (h.mm one).mp hm
  have hx := h.next (fun t ht => (hin t ht).1) hm least
  have lm : ∀ x, lackN ts row x = lackN ts (row ++ [one]) x + if x ∈ succF ts one then 1 else 0 := fun x => by
    rw [lack_more h2 tnd]
    simp only [succ_iff]
  have z1 : ∀ x ∈ row ++ [one], lackN ts (row ++ [one]) x = 0 := fun x hx => by
    have h4 : lackN ts row x = 0 := by
      rcases List.mem_append.mp hx with hx | hx
      · exact h.rz x hx
      · rw [List.mem_singleton.mp hx]; exact h3
    have := lm x
    omega
  refine ⟨?_, fun x hx => ?_, mnd, fun x => ?_, fun x hx => ?_, z1, fun o ho => ?_⟩
  · exact List.nodup_append.mpr ⟨h.rnd, by simp, fun x hx y hy hxy => by rw [List.mem_singleton] at hy; rw [hxy, hy] at hx; exact h2 hx⟩
  · rcases List.mem_append.mp hx with hx | hx
    · exact h.rin x hx
    · rw [List.mem_singleton.mp hx]; exact h1
  · rw [hM x]
    have l1 := lm x
    constructor
    · rintro (⟨g1, g2⟩ | ⟨g1, g2⟩)
      · obtain ⟨k1, k2, k3⟩ := (h.mm x).mp g1
        refine ⟨k1, fun z => ?_, by omega⟩
        rcases List.mem_append.mp z with z | z
        · exact k2 z
        · exact g2 (List.mem_singleton.mp z)
      · rw [if_pos g1] at l1
        refine ⟨(hin _ (succ_iff.mp g1)).2, fun z => ?_, by omega⟩
        rcases List.mem_append.mp z with z | z
        · have := h.rz x z
          omega
        · rw [List.mem_singleton.mp z] at g2
          omega
    · rintro ⟨k1, k2, k3⟩
      by_cases g : x ∈ succF ts one
      · rw [if_pos g] at l1
        exact .inr ⟨g, by omega⟩
      · rw [if_neg g] at l1
        exact .inl ⟨(h.mm x).mpr ⟨k1, fun z => k2 (List.mem_append_left _ z), by omega⟩, fun z => k2 (by rw [z]; simp)⟩
  · rw [hc x hx]
    have := lm x
    split at this
    · next g => rw [if_pos g]; omega
    · next g => rw [if_neg g]; omega
  · have e1 : (ns.filter fun x => !decide (x ∈ row ++ [one])) = (ns.filter fun x => !decide (x ∈ row)).filter fun y => !decide (y = one) := by
      rw [List.filter_filter]
      apply List.filter_congr
      intro x _
      by_cases c1 : x ∈ row <;> by_cases c2 : x = one <;> simp [c1, c2]
    rw [e1] at ho
    have := h.rel _ (Ord.step hx ho)
    cases o with
    | none => exact this
    | some l =>
      simp only [Option.map_some] at this ⊢
      rw [List.append_assoc]
      exact this
theorem OrdInv.fin (h : OrdInv ts pl ns row [] c) (hin : ∀ t ∈ ts, t.1 ∈ ns) (nd : ns.Nodup) : (row.length < ns.length → Ord ts pl ns none) ∧ (¬ row.length < ns.length → Ord ts pl ns (some row)) := by
  have hs : ∀ x ∈ ns.filter (fun x => !decide (x ∈ row)), ¬ NoPred ts (ns.filter fun x => !decide (x ∈ row)) x := fun x hx g => by
    have h1 := (h.np hin).mp g
    have h2 := (h.mm x).mpr ⟨(List.mem_filter.mp hx).1, by simpa using (List.mem_filter.mp hx).2, h1⟩
    cases h2
  by_cases c0 : (ns.filter fun x => !decide (x ∈ row)) = []
  · have r := h.rel (some []) (by rw [c0]; exact .done)
    have h1 := len_le_of nd (m := row) fun x hx => by
      have := List.filter_eq_nil_iff.mp c0 x hx
      simpa using this
    refine ⟨fun z => by omega, fun _ => ?_⟩
    simpa using r
  · have r := h.rel none (.stuck c0 hs)
    have h1 := len_le_of h.rnd h.rin
    obtain ⟨x, hx⟩ := List.exists_mem_of_ne_nil _ c0
    obtain ⟨hx1, hx2⟩ := List.mem_filter.mp hx
    have hx2 : x ∉ row := by simpa using hx2
    have h2 := len_le_of (l := row ++ [x]) (m := ns) (List.nodup_append.mpr ⟨h.rnd, by simp, fun y hy z hz hyz => by rw [List.mem_singleton] at hz; rw [hyz, hz] at hy; exact hx2 hy⟩) fun y hy => by
      rcases List.mem_append.mp hy with hy | hy
      · exact h.rin y hy
      · rw [List.mem_singleton.mp hy]; exact hx1
    rw [List.length_append, List.length_singleton] at h2
    exact ⟨fun _ => r, fun z => by omega⟩
end
def PopK (ty : TE) (σ : L2.St) (Q : VK) : VK := fun x H1 => ∃ a, x = .ref a ∧ IsD H1 a ∧ ty σ H1 fun y H2 => ∃ kvs k v, H2 a = some (.dK kvs) ∧ y = kV k ∧ valV kvs k = some v ∧ Q v (upd H2 a (.dK (dropK kvs k)))
theorem y_dpop1 {td ty : TE} {σ : L2.St} {H : Hp} {Q : VK} (h : td σ H (PopK ty σ Q)) : tDPop1 td ty σ H Q := h
theorem leftK_some {l : List Int} {n : Int} (h : n ∈ l) : valV (leftK l) (.inl n) = some (.bl true) := by
  induction l with
  | nil => cases h
  | cons a l ih =>
    unfold leftK at *
    rw [List.map_cons]
    by_cases e : a = n
    · rw [valV_pos (show (Sum.inl a : Key) = .inl n by rw [e])]
    · rw [valV_neg (show ¬ (Sum.inl a : Key) = .inl n from fun z => e (Sum.inl.inj z))]
      exact ih ((List.mem_cons.mp h).resolve_left fun z => e z.symm)
theorem dp_pair {H : Hp} {x : V} {i j : Int} (h : Dp K H x (.tuple [.int i, .int j])) : ∃ t, x = .ref t ∧ SqT K H t [.int i, .int j] := by
  cases h with
  | tup h1 h2 =>
    cases h2 with
    | cons d1 h2 => cases h2 with
      | cons d2 h2 =>
        cases h2
        cases d1
        cases d2
        exact ⟨_, rfl, h1⟩
theorem pair_less {B : Hp} {d : Addr} {kvs : List (Key × V)} {v : V} {p : Int × Int} (hB : B d = some (.dK kvs)) (h : At (.tup2 .int .int) K B v p) : At (.tup2 .int .int) K (less B [(d, .dK kvs)]) v p := by
  obtain ⟨t, v1, v2, rfl, h1, h2, h3⟩ := at_tup2 h
  have e1 := at_int h2
  have e2 := at_int h3
  subst e1 e2
  exact .tup2 (sqT_less hB h1) .int .int

def φ_order (K : PySem.W.Frag) : Ph := fun B vs L k => ∃ (a : Addr) (rows : List Dl), vs = [.ref a] ∧ L = [] ∧ DealsIn K B a rows ∧
  ∀ ts B', TiesOk rows ts → Same B B' → (Ord ts (plOf rows) (rows.map (·.num)) none → k B' .non []) ∧ ∀ p l, Ord ts (plOf rows) (rows.map (·.num)) (some l) → k B' (.ref p) [(p, .lst (l.map V.int))]
theorem fn_order (T : Tx K mg) (fd : FuncData) (F : FunD K "order" "order" (defArgs s_order) (defBody s_order) (defScope s_order) [] [] (He.ga K "order") fd) : FnOk P w K mg base CX0 7 (He.ga K "order") fd ["dealings"] (spY (φ_order K)) := by
  refine fnM F sc_order (fun B vs L k h => by obtain ⟨_, _, rfl, _⟩ := h; rfl) (fun cdv A outer s H vs Q E B L e hz he hr S h => ?_)
  obtain ⟨a, rows, rfl, rfl, hin, k⟩ := h
  refine ⟨_, (pss_cons (ps_set (i := 1) sc_order.nd rfl (.inl rfl) (pe_callO (ok_behind_of (K := K) T) hr (by rfl) (pa_cons (pv 0) pa_nil)))
      (pss_cons (ps_set (i := 3) sc_order.nd rfl (.inr rfl) (pe_dc (own := [("row", 2)]) (by rfl) sc_order.nd (pi_listK (K := K) rfl (pv 0)) (blkOk_by (own := [("row", 2)]) (N := ["dealings", "behind", "row", "places", "one", "lacks", "others", "other", "may"]) (sc := defScope s_order) (by decide +kernel)) (fun _ _ _ _ _ => (pg_name (i := 2) sc_order.nd rfl (.inl rfl))) (fun _ _ _ _ _ => pts_nil) (fun _ _ _ _ _ => (pe_ix (ix_U (K := K) rfl (hu_of hr)) (pv 2) pe_int (fun _ _ => rfl))) (fun _ _ _ _ _ => (pe_ix (ix_U (K := K) rfl (hu_of hr)) (pv 2) pe_int (fun _ _ => rfl)))))
      (pss_cons (ps_set (i := 5) sc_order.nd rfl (.inr rfl) (pe_lock (pe_dc (own := [("one", 4)]) (by rfl) sc_order.nd (pi_keys (pv 1)) (blkOk_by (own := [("one", 4)]) (N := ["dealings", "behind", "row", "places", "one", "lacks", "others", "other", "may"]) (sc := defScope s_order) (by decide +kernel)) (fun _ _ _ _ _ => (pg_name (i := 4) sc_order.nd rfl (.inl rfl))) (fun _ _ _ _ _ => pts_nil) (fun _ _ _ _ _ => (pv 4)) (fun _ _ _ _ _ => pe_int))))
      (pss_cons (ps_lock (ps_for PassesOwn.never rfl (pi_values (pv 1)) (pg_name (i := 6) sc_order.nd rfl (.inl rfl))
      (pss_one (ps_for PassesOwn.never rfl (pi_listK (K := K) rfl (pv 6)) (pg_name (i := 7) sc_order.nd rfl (.inl rfl))
      (pss_one (ps_daug (hu_of hr) (pv 5) (pv 7) pe_int in_add (by intros; rfl)))))))
      (pss_cons (ps_lock (ps_setDc (i := 8) (own := [("one", 4)]) (by rfl) sc_order.nd rfl rfl (sw_trueD rfl rfl rfl (by decide +kernel)) (pi_keys (pv 5)) (blkOk_by (own := [("one", 4)]) (N := ["dealings", "behind", "row", "places", "one", "lacks", "others", "other", "may"]) (sc := defScope s_order) (by decide +kernel)) (fun _ _ _ _ _ => (pg_name (i := 4) sc_order.nd rfl (.inl rfl))) (fun _ _ _ _ _ => (pts_one (pt_cmpR (op_eqZ (K := K) rfl hr.units) (pe_ix (ix_U (K := K) rfl (hu_of hr)) (pv 5) (pv 4) (fun _ _ => rfl)) pe_int (nomark _)))) (fun _ _ _ _ _ => (pv 4)) (fun _ _ _ _ _ => pe_bl)))
      (pss_cons (ps_set (i := 2) sc_order.nd rfl (.inl rfl) (pe_lst pa_nil))
      (pss_cons (ps_while PassesOwn.never (pt_cmpR (op_neDE hr.units) (pv 8) pe_dnewK (nomark _))
      (pss_cons (ps_set (i := 4) sc_order.nd rfl (.inl rfl) (pe_ix (ix_U (K := K) rfl (hu_of hr)) (pe_callB (call_minZ (K := K) rfl rfl hr.units) (by rfl) T.n_min (by decide +kernel) (pa_cons (pe_lock (pe_lc (own := [("other", 7)]) (by rfl) sc_order.nd (pi_keys (pv 8)) (blkOk_by (own := [("other", 7)]) (N := ["dealings", "behind", "row", "places", "one", "lacks", "others", "other", "may"]) (sc := defScope s_order) (by decide +kernel)) (fun _ _ _ _ _ => (pg_name (i := 7) sc_order.nd rfl (.inl rfl))) (fun _ _ _ _ _ => pts_nil) (fun _ _ _ _ _ => (pe_tup (pa_cons (pe_ix (ix_U (K := K) rfl (hu_of hr)) (pv 3) (pv 7) (fun _ _ => rfl)) (pa_cons (pv 7) pa_nil)))))) pa_nil)) pe_int (fun _ _ => rfl)))
      (pss_cons (ps_expr (pe_dpop1 (pv 8) (pv 4) (by exact ⟨rfl, rfl, rfl, rfl⟩)))
      (pss_cons (ps_expr (pe_bmK (K := K) (id := "list.append") rfl (pe_bm PySem.F.plainAttrs_list PySem.F.slot_list_append PySem.F.type_list_append mt_append (pv 2) (pa_cons (pv 4) pa_nil))))
      (pss_one (ps_for PassesOwn.never rfl (pi_listK (K := K) rfl (pe_ix (ix_U (K := K) rfl (hu_of hr)) (pv 1) (pv 4) (fun _ _ => rfl))) (pg_name (i := 7) sc_order.nd rfl (.inl rfl))
      (pss_cons (ps_daug (hu_of hr) (pv 5) (pv 7) pe_int in_sub (by intros; rfl))
      (pss_one (ps_if (pt_cmpR (op_eqZ (K := K) rfl hr.units) (pe_ix (ix_U (K := K) rfl (hu_of hr)) (pv 5) (pv 7) (fun _ _ => rfl)) pe_int (nomark _))
      (pss_one (ps_asg pe_bl (pg_sub (pv 8) (pv 7) (set_U (hu_of hr)))))
      pss_nil)))))))))
      (pss_cons (ps_if (pt_cmpR op_ltU (pe_callB (call_lenU (K := K) rfl) (by rfl) T.n_len (by decide +kernel) (pa_cons (pv 2) pa_nil)) (pe_callB (call_lenU (K := K) rfl) (by rfl) T.n_len (by decide +kernel) (pa_cons (pv 1) pa_nil)) (nomark _))
      (pss_one (ps_ret pe_non))
      pss_nil)
      (pss_one (ps_ret (pv 2))))))))))), ?_⟩
  walk_at "yn"
  obtain ⟨zs, ok, hzl⟩ := hin.ok
  have hrl := ok.len
  obtain ⟨rv, hrv, hrp⟩ := at_list_ref hin.at_
  have hrvl : rv.length = rows.length := hrp.length
  walk_at "yn"
  refine y_sp0 S ⟨a, rows, rfl, rfl, hin, fun bd bs ts B1 hts bok hat b1 H T => ?_⟩
  obtain ⟨hbd0, S⟩ := S.backN0 T
  clear T
  obtain ⟨B2, b2, hbd, S⟩ := S.frz 0 rfl hbd0
  try simp only [List.eraseIdx] at S
  have hat : ∀ p ∈ bs, At (.list .int) K B2 (.ref p.at_) p.ns := fun p hp => (hat p hp).up b2
  have htl := ties_len ok hts
  have hsl : ∀ n, (succF ts n).length ≤ 10000 := fun n => by
    unfold succF
    rw [List.length_map]
    exact Nat.le_trans (List.length_filter_le _ _) htl
  have hbl : bs.length = rows.length := by
    have := congrArg List.length bok.kk
    rwa [List.length_map, List.length_map] at this
  walk_at "yn"
  refine y_dcG (walk_list (xs := rv)) S (fun i B1 kvs L1 => kvs = ((rows.take i).map fun r => (r.num, r.place)).map enc ∧ L1 = []) ⟨rfl, rfl⟩ (fun i B1 H1 kvs L1 D hP b1' S1 => S1.l (up_l (by walk_at "up") hrv)) (fun i x B3 H1 H1' kvs L1 D Kp Kn hi hP b3 hD S hy kp kn => ?_) (fun B3 H kvs L1 pd hP b3 hpd0 S => ?_)
  · obtain ⟨rfl, e2⟩ := hy
    obtain ⟨rfl, rfl⟩ := hP
    obtain ⟨z, hz, hxz⟩ := pr_getL hrp e2
    obtain ⟨t, a4, a5, a6, rfl, ht, -, -, -⟩ := at_row hxz
    have htk : rows.take (i + 1) = rows.take i ++ [z] := by rw [List.take_add_one, hz]; rfl
    have hzn : z.num ∉ ((rows.take i).map fun r => (r.num, r.place)).map (·.1) := by
      rw [List.map_map]
      intro hm
      have nd2 : ((rows.take (i + 1)).map (·.num)).Nodup := ok.nn.sublist ((List.take_sublist _ _).map _)
      rw [htk, List.map_append] at nd2
      exact (List.nodup_append.mp nd2).2.2 _ hm _ (List.mem_singleton_self _) rfl
    walk_at "yn"
    refine kp (.inl z.num) _ B3 _ _ (lenLt (by rw [List.length_map, List.length_map, List.length_take]; omega)) b3 S ⟨?_, rfl⟩
    rw [put_enc hzn, htk, List.map_append, List.map_append, List.map_append]
    rfl
  obtain ⟨rfl, rfl⟩ := hP
  rw [hrvl, List.take_length] at S
  obtain ⟨B4, b4, hpd, S⟩ := S.frz 0 rfl hpd0
  try simp only [List.eraseIdx] at S
  have hbd4 : B4 bd = some (blD bs) := b4 _ _ (b3 _ _ hbd)
  walk_at "yn"
  refine y_lockX hz S hbd4 hbd0 fun od H e1 Q' he1 hH S hst hnx => ?_
  walk_at "yn"
  refine y_keysK hH ?_
  refine y_dcG walk_keys S (fun i B5 kvs L1 => kvs = lkK ((rows.map (·.num)).take i) (fun _ => 0) ∧ L1 = []) ⟨rfl, rfl⟩ (fun i B5 H1 kvs L1 D hP b5 S1 => hst _ _ _ S1) (fun i x B5 H1 H1' kvs L1 D Kp Kn hi hP b5 hD S hy kp kn => ?_) (fun B5 H kvs L1 lk hP b5 hlk0 S => ?_)
  · obtain ⟨rfl, kk, vv, e2, rfl⟩ := hy
    obtain ⟨rfl, rfl⟩ := hP
    have e3 : (rows.map (·.num))[i]?.map (Sum.inl : Int → Key) = some kk := by
      rw [← bok.kk, List.getElem?_map]
      rw [List.getElem?_map] at e2
      cases q : bs[i]? with
      | none => rw [q] at e2; cases e2
      | some p => rw [q] at e2; cases e2; rfl
    obtain ⟨n, hn, rfl⟩ := Option.map_eq_some_iff.mp e3
    have htk : (rows.map (·.num)).take (i + 1) = (rows.map (·.num)).take i ++ [n] := by rw [List.take_add_one, hn]; rfl
    have hnn : n ∉ (rows.map (·.num)).take i := fun z => by
      have nd2 : ((rows.map (·.num)).take (i + 1)).Nodup := ok.nn.sublist (List.take_sublist _ _)
      rw [htk] at nd2
      exact (List.nodup_append.mp nd2).2.2 _ z _ (List.mem_singleton_self _) rfl
    walk_at "yn"
    refine kp (.inl n) _ B5 _ _ (lenLt (by rw [List.length_map, List.length_take, List.length_map]; omega)) b5 S ⟨?_, rfl⟩
    rw [lk_new hnn, htk]
  obtain ⟨rfl, rfl⟩ := hP
  rw [List.length_map, show (rows.map (·.num)).take bs.length = rows.map (·.num) from List.take_of_length_le (by rw [List.length_map]; omega)] at S
  rw [he1] at hlk0
  refine hnx _ _ _ _ b5 S fun H S => ?_
  clear hnx hst hH he1
  have hbd5 : B5 bd = some (blD bs) := b5 _ _ hbd4
  have hpd5 := b5 _ _ hpd
  have hin2 : ∀ t ∈ ts, t.1 ∈ rows.map (·.num) ∧ t.2 ∈ rows.map (·.num) := fun t ht => tie_in ok hts ht
  walk_at "yn"
  refine y_lockS hz S hbd5 hbd0 fun od H e1 nx' rt' bk' ct' he1 hH S hst hnx hrt => ?_
  walk_at "yn"
  refine y_valsK hH ?_
  refine y_forG walk_values (fun i σ H => ∃ (c : Int → Int), (∃ (y2 y4 y6 y7 y8 : Option V), σ = [some (.ref a), some (.ref bd), y2, some (.ref pd), y4, some (.ref lk), y6, y7, y8]) ∧ Sy e1 B5 H [(lk, .dK (lkK (rows.map (·.num)) c))] ∧ ∀ n, c n = cntN ts ((rows.map (·.num)).take i) n) ⟨fun _ => 0, ⟨_, _, _, _, _, rfl⟩, S, fun n => by unfold cntN; rw [List.filter_eq_nil_iff.mpr (fun t _ => by simp)]; rfl⟩ (fun i σ H hi ⟨c, _, S, _⟩ => hst _ _ _ S) ?_ ?_
  · clear S
    rintro i x σ H H' ti ⟨c, ⟨y2, y4, y6, y7, y8, rfl⟩, S, hc⟩ ⟨rfl, kk, e2⟩
    rw [List.length_map] at ti
    obtain ⟨p, hp⟩ : ∃ p, bs[i]? = some p := ⟨_, List.getElem?_eq_getElem ti⟩
    have hpm : p ∈ bs := List.mem_of_getElem? hp
    rw [List.getElem?_map, hp] at e2
    cases e2
    have hpn : (rows.map (·.num))[i]? = some p.num := by rw [← bok.kk, List.getElem?_map, hp]; rfl
    have htk : (rows.map (·.num)).take (i + 1) = (rows.map (·.num)).take i ++ [p.num] := by rw [List.take_add_one, hpn]; rfl
    have hnn : p.num ∉ (rows.map (·.num)).take i := fun z => by
      have nd2 : ((rows.map (·.num)).take (i + 1)).Nodup := ok.nn.sublist (List.take_sublist _ _)
      rw [htk] at nd2
      exact (List.nodup_append.mp nd2).2.2 _ z _ (List.mem_singleton_self _) rfl
    have hlist : At (.list .int) K B5 (.ref p.at_) (succF ts p.num) := by rw [← bok.ns p hpm]; exact At.up (by walk_at "up") (hat p hpm)
    obtain ⟨lv, hlv, -⟩ := at_list_ref hlist
    have snd := succ_nodup (n := p.num) hts.nd
    walk_at "yn"
    refine y_forC (e := e1) (c := .int) (fun j σ H => ∃ (c : Int → Int), (∃ (y2 y4 y6 y7 y8 : Option V), σ = [some (.ref a), some (.ref bd), y2, some (.ref pd), y4, some (.ref lk), y6, y7, y8]) ∧ Sy e1 B5 H [(lk, .dK (lkK (rows.map (·.num)) c))] ∧ ∀ n, c n = cntN ts ((rows.map (·.num)).take i) n + if n ∈ (succF ts p.num).take j then 1 else 0) hlist ⟨c, ⟨_, _, _, _, _, rfl⟩, S, fun n => by rw [hc n]; simp⟩ (fun j σ H hj ⟨c, _, S, _⟩ => ⟨B5, _, Same.refl _, S⟩) ?_ ?_
    · clear S hc
      rintro j x o σ H ho hxo ⟨c, ⟨y2, y4, y6, y7, y8, rfl⟩, S, hc⟩
      have e1 := at_int hxo
      subst e1
      have hom : o ∈ rows.map (·.num) := (hin2 _ (succ_tie (List.mem_of_getElem? ho))).2
      have hno : o ∉ (succF ts p.num).take j := fun z => by
        have e2 : (succF ts p.num).take (j + 1) = (succF ts p.num).take j ++ [o] := by rw [List.take_add_one, ho]; rfl
        have nd2 : ((succF ts p.num).take (j + 1)).Nodup := snd.sublist (List.take_sublist _ _)
        rw [e2] at nd2
        exact (List.nodup_append.mp nd2).2.2 _ z _ (List.mem_singleton_self _) rfl
      walk_at "yn"
      refine y_daug ?_
      walk_at "yn"
      refine ⟨lk, .int (c o), rfl, .inl ⟨_, .inl o, .inl (S.at 0 rfl), rfl, (lk_val hom).symm⟩, ?_⟩
      walk_at "yn"
      refine ⟨c o, 1, rfl, rfl, _, .inl ⟨_, .inl o, S.at 0 rfl, rfl, lenLt (by rw [List.length_map, List.length_map]; omega), rfl⟩, ?_⟩
      replace S := S.wr 0 rfl (.dK (putK (lkK (rows.map (·.num)) c) (.inl o) (.int (c o + 1))))
      try simp only [List.set] at S
      rw [lk_put hom] at S
      refine ⟨_, ⟨_, _, _, _, _, rfl⟩, by rw [lk_put hom]; exact S, fun n => ?_⟩
      have e2 : (succF ts p.num).take (j + 1) = (succF ts p.num).take j ++ [o] := by rw [List.take_add_one, ho]; rfl
      rw [e2]
      show (if n = o then c o + 1 else c n) = _
      by_cases c1 : n = o
      · subst c1
        rw [if_pos rfl, hc n, if_neg hno, if_pos (by simp)]
        omega
      · rw [if_neg c1, hc n]
        have : (n ∈ (succF ts p.num).take j ++ [o]) ↔ n ∈ (succF ts p.num).take j := by simp [c1]
        simp only [this]
    · clear S hc
      rintro σ H ⟨c, ⟨y2, y4, y6, y7, y8, rfl⟩, S, hc⟩
      refine ⟨c, ⟨_, _, _, _, _, rfl⟩, S, fun n => ?_⟩
      rw [hc n, List.take_length, htk, cnt_more hnn hts.nd]
      simp only [succ_iff]
      split <;> simp
  clear S
  rintro σ H ⟨c, ⟨y2, y4, y6, y7, y8, rfl⟩, S, hc⟩
  rw [List.length_map, show (rows.map (·.num)).take bs.length = rows.map (·.num) from List.take_of_length_le (by rw [List.length_map]; omega)] at hc
  have hc : ∀ n, c n = lackN ts [] n := fun n => by rw [hc n, cnt_all fun t ht => (hin2 t ht).1]
  refine hnx _ _ _ _ (Same.refl _) S fun H S => ?_
  clear hnx hrt hst hH he1
  have hB5lk : B5 lk = none := (S.led _ List.mem_cons_self).2.1
  have heB : e.B lk = none := by
    cases q : e.B lk with
    | none => rfl
    | some u => have := S.b0 _ _ q; rw [hB5lk] at this; cases this
  obtain ⟨b6, S⟩ := S.freeze hlk0
  walk_at "yn"
  refine y_lockS hz S upd_same hlk0 fun od H e1 nx' rt' bk' ct' he1 hH S hst hnx hrt => ?_
  walk_at "yn"
  refine y_keysK hH ?_
  refine y_dcG walk_keys S (fun i B7 kvs L1 => kvs = leftK (((rows.map (·.num)).take i).filter fun n => decide (lackN ts [] n = 0)) ∧ L1 = []) ⟨rfl, rfl⟩ (fun i B7 H1 kvs L1 D hP b7 S1 => hst _ _ _ S1) (fun i x B7 H1 H1' kvs L1 D Kp Kn hi hP b7 hD S hy kp kn => ?_) (fun B7 H kvs L1 my hP b7 hmy0 S => ?_)
  · obtain ⟨rfl, kk, vv, e2, rfl⟩ := hy
    obtain ⟨rfl, rfl⟩ := hP
    rw [List.getElem?_map] at e2
    obtain ⟨n, hn, e3⟩ := Option.map_eq_some_iff.mp e2
    cases e3
    have hnm : n ∈ rows.map (·.num) := List.mem_of_getElem? hn
    have htk : (rows.map (·.num)).take (i + 1) = (rows.map (·.num)).take i ++ [n] := by rw [List.take_add_one, hn]; rfl
    have hnn : n ∉ ((rows.map (·.num)).take i).filter fun n => decide (lackN ts [] n = 0) := fun z => by
      have z := (List.mem_filter.mp z).1
      have nd2 : ((rows.map (·.num)).take (i + 1)).Nodup := ok.nn.sublist (List.take_sublist _ _)
      rw [htk] at nd2
      exact (List.nodup_append.mp nd2).2.2 _ z _ (List.mem_singleton_self _) rfl
    walk_at "yn"
    refine y_ixD (k := .inl n) (S.rd (b7 _ _ upd_same)) rfl (lk_val hnm) ?_
    walk_at "yn"
    refine y_iteI (fun hc2 => ?_) (fun hc2 => ?_)
    · rw [hc n] at hc2
      walk_at "yn"
      refine kp (.inl n) _ B7 _ _ (lenLt (by
        rw [List.length_map]
        have h1 := List.length_filter_le (fun n => decide (lackN ts [] n = 0)) ((rows.map (·.num)).take i)
        rw [List.length_take, List.length_map] at h1
        omega)) b7 S ⟨?_, rfl⟩
      rw [leftK_put hnn, htk, List.filter_append]
      congr 2
      rw [List.filter_cons, if_pos (by simp; omega)]
      rfl
    · rw [hc n] at hc2
      refine kn B7 _ _ b7 S ⟨?_, rfl⟩
      rw [htk, List.filter_append]
      have : [n].filter (fun n => decide (lackN ts [] n = 0)) = [] := by
        rw [List.filter_cons, if_neg (by simp; omega)]
        rfl
      rw [this, List.append_nil]
  obtain ⟨rfl, rfl⟩ := hP
  rw [List.length_map, show (rows.map (·.num)).take (rows.map (·.num)).length = rows.map (·.num) from List.take_length] at S
  rw [he1] at hmy0
  walk_at "yn"
  refine hnx _ _ _ _ b7 S fun H S => ?_
  clear hnx hrt hst hH he1
  have hlk7 := b7 _ _ (upd_same (H := B5) (a := lk) (o := .dK (lkK (rows.map (·.num)) c)))
  have b58 : Same B5 (less B7 [(lk, .dK (lkK (rows.map (·.num)) c))]) := same_less (b6.trans b7) hB5lk
  replace S := Sy.thaw S hlk7 (S.dk hlk7 trivial hlk0 hz) hlk0 heB (by rw [hz]; simp) (by intro _ z; cases z)
  revert b58 S
  generalize less B7 [(lk, .dK (lkK (rows.map (·.num)) c))] = B8
  intro b58 S
  have oinv := OrdInv.start (pl := plOf rows) (fun x _ => hc x) ok.nn
  revert oinv
  generalize ((rows.map (·.num)).filter fun n => decide (lackN ts [] n = 0)) = M0 at S
  intro oinv
  walk_at "yn"
  refine y_newM S fun rw H hrw0 S => ?_
  walk_at "yn"
  have hbd8 : B8 bd = some (blD bs) := b58 _ _ hbd5
  have hpd8 := b58 _ _ hpd5
  have hat8 : ∀ p ∈ bs, At (.list .int) K B8 (.ref p.at_) p.ns := fun p hp => At.up (by walk_at "up") (hat p hp)
  refine y_while (fun m σ H => ∃ (B9 : Hp) (row M : List Int) (c : Int → Int), (∃ (y4 y6 y7 : Option V), σ = [some (.ref a), some (.ref bd), some (.ref rw), some (.ref pd), y4, some (.ref lk), y6, y7, some (.ref my)]) ∧ Same B8 B9 ∧ Sy e B9 H [(rw, .lst (row.map V.int)), (lk, .dK (lkK (rows.map fun r : Dl => r.num) c)), (my, .dK (leftK M))] ∧ OrdInv ts (plOf rows) (rows.map (·.num)) row M c ∧ m + row.length = rows.length) rows.length ⟨B8, [], M0, c, ⟨_, _, _, rfl⟩, Same.refl _, S, oinv, rfl⟩ ?_
  clear S oinv hc
  rintro m σ H ⟨B9, row, M, c, ⟨y4, y6, y7, rfl⟩, b9, S, oi, hm⟩ QT hQT
  have hin1 : ∀ t ∈ ts, t.1 ∈ rows.map (·.num) := fun t ht => (hin2 t ht).1
  have hMin : ∀ x ∈ M, x ∈ rows.map (·.num) := fun x hx => ((oi.mm x).mp hx).1
  have hMl : M.length ≤ 100 := by
    have := len_le_of oi.mnd hMin
    rw [List.length_map] at this
    omega
  have hrowl : row.length ≤ rows.length := by
    have := len_le_of oi.rnd oi.rin
    rwa [List.length_map] at this
  walk_at "yy"
  refine y_newM S fun q H hq0 S => ?_
  walk_at "yn"
  refine ⟨my, q, leftK M, rfl, rfl, .inl (S.at 3 rfl), S.at 0 rfl, ?_⟩
  replace S := S.tail
  walk_at "yy"
  refine hQT _ _ ?_
  refine y_iteB (fun he => ?_) (fun he => ?_)
  · have hMne : M ≠ [] := fun z => by rw [z] at he; cases he
    have hB9my : B9 my = none := (S.led (my, .dK (leftK M)) (by simp)).2.1
    have heBm : e.B my = none := by
      cases q : e.B my with
      | none => rfl
      | some u => have := S.b0 _ _ q; rw [hB9my] at this; cases this
    walk_at "yn"
    obtain ⟨b10, S⟩ := S.freezeN 2 rfl hmy0
    try simp only [List.eraseIdx] at S
    refine y_lockX hz S upd_same hmy0 fun od H e1 Q' he1 hH S hst hnx => ?_
    walk_at "yn"
    refine y_keysK hH ?_
    refine y_lcRel (At (.tup2 .int .int) K) at_up walk_keys S (by rw [List.length_map]; omega) (fun i => M[i]?.bind fun o => some (plOf rows o, o)) (fun B11 H1 D acc b11 S1 => hst _ _ _ S1) (fun i x B11 H1 H1' acc D Kp Kn hi b11 S hy kp kn => ?_) (fun B11 H acc D b11 hD hp S => ?_)
    · obtain ⟨rfl, kk, vv, e2, rfl⟩ := hy
      rw [List.getElem?_map] at e2
      obtain ⟨o, ho, e3⟩ := Option.map_eq_some_iff.mp e2
      cases e3
      walk_at "yn"
      refine y_ixD (k := .inl o) (S.rd (up_o (by walk_at "up") hpd8)) rfl (by rw [valV_enc, pl_look (hMin o (List.mem_of_getElem? ho))]; rfl) ?_
      walk_at "yn"
      refine y_newI S fun t B12 H b12 ht _ S => ?_
      exact kp _ _ _ _ (by rw [ho]; rfl) b12 (.tup2 (sqT ht) .int .int) S
    rw [List.length_map, range_bind, fm_some] at hp
    refine hnx _ _ _ _ b11 S fun H S => ?_
    clear hnx hst hH
    have hmy11 := b11 _ _ (upd_same (H := B9) (a := my) (o := .dK (leftK M)))
    have b12 : Same B9 (less B11 [(my, .dK (leftK M))]) := same_less (b10.trans b11) hB9my
    have hp2 : Paired (At (.tup2 .int .int) K (less B11 [(my, .dK (leftK M))])) acc (M.map fun o => (plOf rows o, o)) := Paired.mapP hp fun v p q => pair_less hmy11 q
    replace S := Sy.thaw S hmy11 (S.dk hmy11 trivial hmy0 hz) hmy0 heBm (by rw [hz]; simp) (by intro _ z; cases z)
    revert b12 hp2 S
    generalize less B11 [(my, .dK (leftK M))] = B12
    intro b12 hp2 S
    walk_at "yn"
    refine .inr (.inr (.inr ⟨D, acc, M.map fun o => (plOf rows o, o), rfl, sqL (S.at 1 rfl), Sub.ds S.bh (dpAll_of hp2), by rw [List.length_map]; exact List.length_pos_iff.mpr hMne, fun i x p hx hpm hmin hdp => ?_⟩))
    obtain ⟨one, hone, rfl⟩ := List.mem_map.mp hpm
    have least : ∀ y ∈ M, leT (plOf rows one, one) (plOf rows y, y) = true := fun y hy => hmin _ (List.mem_map.mpr ⟨y, hy, rfl⟩)
    obtain ⟨t, rfl, ht⟩ := dp_pair hdp
    obtain ⟨ho1, ho2, ho3⟩ := (oi.mm one).mp hone
    walk_at "yn"
    refine y_ixT (v := .int one) ht rfl ?_
    replace S : Sy _ _ _ [_, _, _, _] := S.ix [2, 3, 0, 1] (n := 4) rfl (by decide)
    replace S := S.outN 3
    try simp only [List.eraseIdx] at S
    walk_at "yn"
    refine y_dpop1 ?_
    walk_at "yn"
    refine ⟨my, rfl, .inl ⟨_, .inl (S.at 2 rfl)⟩, ?_⟩
    walk_at "yn"
    refine ⟨_, .inl one, .bl true, S.at 2 rfl, rfl, leftK_some hone, ?_⟩
    replace S := S.wr 2 rfl (.dK (dropK (leftK M) (.inl one)))
    try simp only [List.set] at S
    rw [leftK_drop] at S ⊢
    walk_at "yn"
    refine y_app 0 S rfl (lenLt (by rw [List.length_map]; omega)) fun H S => ?_
    try simp only [List.set] at S
    rw [show row.map V.int ++ [V.int one] = (row ++ [one]).map V.int by rw [List.map_append]; rfl] at S
    obtain ⟨j0, p, hpj, hpn, hval⟩ := bok.find ho1
    have hpm2 : p ∈ bs := List.mem_of_getElem? hpj
    have hlist : At (.list .int) K B12 (.ref p.at_) (succF ts one) := by rw [← hpn, ← bok.ns p hpm2]; exact At.up (by walk_at "up") (hat8 p hpm2)
    obtain ⟨lv, hlv, -⟩ := at_list_ref hlist
    have snd := succ_nodup (n := one) hts.nd
    walk_at "yn"
    refine y_ixD (k := .inl one) (S.rd (up_o (by walk_at "up") hbd8)) rfl hval ?_
    walk_at "yn"
    refine y_forC (e := e) (c := .int) (fun j σ H => ∃ (M' : List Int) (c' : Int → Int), (∃ (y6 y7 : Option V), σ = [some (.ref a), some (.ref bd), some (.ref rw), some (.ref pd), some (.int one), some (.ref lk), y6, y7, some (.ref my)]) ∧ Sy e B12 H [(rw, .lst ((row ++ [one]).map V.int)), (lk, .dK (lkK (rows.map fun r : Dl => r.num) c')), (my, .dK (leftK M'))] ∧ M'.Nodup ∧ (∀ x, x ∈ M' ↔ (x ∈ M ∧ x ≠ one) ∨ (x ∈ (succF ts one).take j ∧ lackN ts row x = 1)) ∧ ∀ x ∈ rows.map (·.num), c' x = lackN ts row x - if x ∈ (succF ts one).take j then 1 else 0) hlist ⟨M.filter fun y => !decide (y = one), c, ⟨_, _, rfl⟩, S, oi.mnd.sublist List.filter_sublist, fun x => by rw [List.mem_filter]; simp, fun x hx => by rw [oi.cc x hx]; simp⟩ (fun j σ H hj ⟨M', c', _, S, _⟩ => ⟨B12, _, Same.refl _, S⟩) ?_ ?_
    · clear S
      rintro j x o σ H ho hxo ⟨M', c', ⟨y6, y7, rfl⟩, S, mnd, hM, hcc⟩
      have e1 := at_int hxo
      subst e1
      have hot := succ_tie (List.mem_of_getElem? ho)
      have hom : o ∈ rows.map (·.num) := (hin2 _ hot).2
      have e2 : (succF ts one).take (j + 1) = (succF ts one).take j ++ [o] := by rw [List.take_add_one, ho]; rfl
      have hno : o ∉ (succF ts one).take j := fun z => by
        have nd2 : ((succF ts one).take (j + 1)).Nodup := snd.sublist (List.take_sublist _ _)
        rw [e2] at nd2
        exact (List.nodup_append.mp nd2).2.2 _ z _ (List.mem_singleton_self _) rfl
      have hlo : lackN ts row o ≠ 0 := fun z => ho2 (lack_zero.mp z _ hot rfl)
      have hoM : o ∉ M' := fun z => by
        rcases (hM o).mp z with ⟨z1, _⟩ | ⟨z1, _⟩
        · exact hlo ((oi.mm o).mp z1).2.2
        · exact hno z1
      have hco : c' o = lackN ts row o := by rw [hcc o hom, if_neg hno]; omega
      have hM'l : M'.length ≤ 100 := by
        have := len_le_of mnd (m := rows.map (·.num)) fun x hx => by
          rcases (hM x).mp hx with ⟨z1, _⟩ | ⟨z1, _⟩
          · exact hMin x z1
          · exact (hin2 _ (succ_tie (List.mem_of_mem_take z1))).2
        rw [List.length_map] at this
        omega
      have hcc2 : ∀ x ∈ rows.map (·.num), (if x = o then c' o - 1 else c' x) = lackN ts row x - if x ∈ (succF ts one).take (j + 1) then 1 else 0 := fun x hx => by
        rw [e2]
        by_cases c1 : x = o
        · subst c1
          rw [if_pos rfl, hco, if_pos (by simp)]
        · rw [if_neg c1, hcc x hx]
          have : (x ∈ (succF ts one).take j ++ [o]) ↔ x ∈ (succF ts one).take j := by simp [c1]
          simp only [this]
      walk_at "yn"
      refine y_daug ?_
      walk_at "yn"
      refine ⟨lk, .int (c' o), rfl, .inl ⟨_, .inl o, .inl (S.at 1 rfl), rfl, (lk_val hom).symm⟩, ?_⟩
      walk_at "yn"
      refine ⟨c' o, 1, rfl, rfl, _, .inl ⟨_, .inl o, S.at 1 rfl, rfl, lenLt (by rw [List.length_map, List.length_map]; omega), rfl⟩, ?_⟩
      replace S := S.wr 1 rfl (.dK (putK (lkK (rows.map fun r : Dl => r.num) c') (.inl o) (.int (c' o - 1))))
      try simp only [List.set] at S
      rw [lk_put hom] at S ⊢
      refine y_ifS ?_
      walk_at "yy"
      refine y_ixD (k := .inl o) (.inl (S.at 1 rfl)) rfl (lk_val hom) ?_
      walk_at "yy"
      refine y_iteI (fun hc2 => ?_) (fun hc2 => ?_)
      · have hc3 : c' o - 1 = 0 := by simpa using hc2
        walk_at "yy"
        refine .inr ⟨my, _, rfl, .inl ⟨_, .inl o, S.at 2 rfl, rfl, lenLt (by rw [List.length_map]; omega), rfl⟩, ?_⟩
        replace S := S.wr 2 rfl (.dK (putK (leftK M') (.inl o) (.bl true)))
        try simp only [List.set] at S
        rw [leftK_put hoM] at S ⊢
        refine ⟨M' ++ [o], _, ⟨_, _, rfl⟩, S, List.nodup_append.mpr ⟨mnd, by simp, fun x hx y hy hxy => by rw [List.mem_singleton] at hy; rw [hxy, hy] at hx; exact hoM hx⟩, fun x => ?_, hcc2⟩
        rw [List.mem_append, List.mem_singleton, hM x, e2, List.mem_append, List.mem_singleton]
        have hl1 : lackN ts row o = 1 := by omega
        constructor
        · rintro ((h | h) | rfl)
          · exact .inl h
          · exact .inr ⟨.inl h.1, h.2⟩
          · exact .inr ⟨.inr rfl, hl1⟩
        · rintro (h | ⟨h | h, h2⟩)
          · exact .inl (.inl h)
          · exact .inl (.inr ⟨h, h2⟩)
          · exact .inr h
      · have hc3 : c' o - 1 ≠ 0 := by simpa using hc2
        walk_at "yy"
        refine ⟨M', _, ⟨_, _, rfl⟩, S, mnd, fun x => ?_, hcc2⟩
        rw [hM x, e2, List.mem_append, List.mem_singleton]
        constructor
        · rintro (h | h)
          · exact .inl h
          · exact .inr ⟨.inl h.1, h.2⟩
        · rintro (h | ⟨h | h, h2⟩)
          · exact .inl h
          · exact .inr ⟨h, h2⟩
          · rw [h] at h2
            omega
    · clear S
      rintro σ H ⟨M', c', ⟨y6, y7, rfl⟩, S, mnd, hM, hcc⟩
      rw [List.take_length] at hM hcc
      have oi2 := oi.step (fun t ht => hin2 t ht) hts.nd hone least mnd hM hcc
      have hr2 : (row ++ [one]).length ≤ rows.length := by
        have := len_le_of oi2.rnd oi2.rin
        rwa [List.length_map] at this
      rw [List.length_append, List.length_singleton] at hr2
      exact ⟨m - 1, by omega, B12, _, _, _, ⟨_, _, _, rfl⟩, by walk_at "up", S, oi2, by rw [List.length_append, List.length_singleton]; omega⟩
  · have hM0 : M = [] := by
      cases M with
      | nil => rfl
      | cons _ _ => cases he
    subst hM0
    obtain ⟨f1, f2⟩ := oi.fin hin1 ok.nn
    rw [List.length_map] at f1 f2
    obtain ⟨k1, k2⟩ := k ts B9 hts (by walk_at "up")
    walk_at "yn"
    refine y_ifS ?_
    walk_at "yy"
    refine y_lenD (S.rd (up_o (by walk_at "up") hbd8)) ?_
    rw [List.length_map, List.length_map, hbl]
    walk_at "yy"
    refine y_ite (fun hc => ?_) (fun hc => ?_)
    · walk_at "yn"
      exact k1 (f1 (by omega)) _ S.none
    · walk_at "yn"
      exact k2 rw row (f2 (by omega)) _ (S.sub (by simp))
theorem ok_order (T : Tx K mg) : Ok P w K mg base 7 "order" ["dealings"] (spY (φ_order K)) :=
  Ok.of T.F_order T.g_order (fun _ _ _ _ _ _ us hl => match us, hl with | [_], _ => rfl) (fn_order T)

def leI (z w : Int) : Bool := leD (.int z) (.int w)
theorem leI_iff {z w : Int} : leI z w = true ↔ z ≤ w := by
  unfold leI leD
  rw [PySem.W.dataLt_int]
  simp
theorem leI_perm {l m : List Int} : l.mergeSort leI = m.mergeSort leI ↔ l.Perm m := by
  constructor
  · intro h
    exact (List.mergeSort_perm l leI).symm.trans ((h ▸ List.Perm.refl _ : (l.mergeSort leI).Perm (m.mergeSort leI)).trans (List.mergeSort_perm m leI))
  · intro h
    have tr : ∀ x y z : Int, leI x y = true → leI y z = true → leI x z = true := fun x y z h1 h2 => by rw [leI_iff] at *; omega
    have to : ∀ x y : Int, (leI x y || leI y x) = true := fun x y => by rw [Bool.or_eq_true, leI_iff, leI_iff]; omega
    exact sorted_eq (le := leI) (fun x y h1 h2 => by rw [leI_iff] at *; omega) (List.pairwise_mergeSort tr to l) (List.pairwise_mergeSort tr to m) ((List.mergeSort_perm l leI).trans (h.trans (List.mergeSort_perm m leI).symm))
def isOrdB (ts : List (Int × Int)) (ns l : List Int) : Bool := decide (l.mergeSort leI = ns.mergeSort leI) && ts.all fun t => decide ((l.idxOf t.1 : Int) < l.idxOf t.2)
theorem y_sortInts {P : Program} {w : World} {e : En} {B H : Hp} {L : Led} {Q : VK} {a : Addr} {zs : List Int} (S : Sy e B H L) (h : SqL K H a (zs.map V.int)) (q : NewK (.lst ((zs.mergeSort leI).map V.int)) Q H) : rSortW P w K [.ref a] H Q := by
  refine .inl (.inr (.inl (y_sortC .int S h (pr_ofIntsX zs) (fun z _ w _ => ?_) (.inr fun d hd => ?_) (by decide) fun ys hys => ?_)))
  · simp [Cod.int, PySem.W.alike]
  · obtain ⟨x, _, rfl⟩ := List.mem_map.mp hd
    exact ⟨(fun z => by cases z), (fun _ z => by cases z)⟩
  · have e1 := ints_of hys
    subst e1
    exact q
theorem tiesOk_ex {zs : List Str} {rows : List Dl} (ok : DealsOk zs rows) : ∃ ts, TiesOk rows ts :=
  ⟨_, TiesOk.of (ps := dueF (rows.flatMap fun r => r.writes) rows rows) (due_nodup ok.nn ok.nn) (due_mem ok fun key => by rw [List.mem_flatMap])⟩
def φ_is_order (K : PySem.W.Frag) : Ph := fun B vs L k => ∃ (a r : Addr) (rows : List Dl) (l : List Int), vs = [.ref a, .ref r] ∧ L = [] ∧ DealsIn K B a rows ∧ At (.list .int) K B (.ref r) l ∧ l.length ≤ 1000 ∧
  ∀ ts B', TiesOk rows ts → Same B B' → k B' (.bl (isOrdB ts (rows.map (·.num)) l)) []
theorem map_all {α : Type} (f : α → Bool) : ∀ l : List α, (l.map f).all id = l.all f
  | [] => rfl
  | a :: l => by rw [List.map_cons, List.all_cons, List.all_cons, map_all f l]; rfl
theorem idx_at {l : List Int} (nd : l.Nodup) {i : Nat} {x : Int} (h : l[i]? = some x) : l.idxOf x = i := by
  obtain ⟨h1, h2⟩ := List.getElem?_eq_some_iff.mp h
  rw [← h2]
  exact nd.idxOf_getElem i h1
theorem fn_is_order (T : Tx K mg) (fd : FuncData) (F : FunD K "is_order" "is_order" (defArgs s_is_order) (defBody s_is_order) (defScope s_is_order) [] [] (He.ga K "is_order") fd) : FnOk P w K mg base CX0 6 (He.ga K "is_order") fd ["dealings", "row"] (spY (φ_is_order K)) := by
  refine fnM F sc_is_order (fun B vs L k h => by obtain ⟨_, _, _, _, rfl, _⟩ := h; rfl) (fun cdv A outer s H vs Q E B L e hz he hr S h => ?_)
  obtain ⟨a, r, rows, l, rfl, rfl, hin, hl, hll, k⟩ := h
  refine ⟨_, (pss_cons (ps_if (pt_cmpR (op_neZ (K := K) rfl hr.units) (pe_callB (call_sortedW (P := P) (w := w) (K := K) rfl rfl rfl rfl hr.units) (by rfl) T.n_sorted (by decide +kernel) (pa_cons (pv 1) pa_nil)) (pe_callB (call_sortedW (P := P) (w := w) (K := K) rfl rfl rfl rfl hr.units) (by rfl) T.n_sorted (by decide +kernel) (pa_cons (pe_lc (own := [("one", 3)]) (by rfl) sc_is_order.nd (pi_listK (K := K) rfl (pv 0)) (blkOk_by (own := [("one", 3)]) (N := ["dealings", "row", "places", "one", "at", "other"]) (sc := defScope s_is_order) (by decide +kernel)) (fun _ _ _ _ _ => (pg_name (i := 3) sc_is_order.nd rfl (.inl rfl))) (fun _ _ _ _ _ => pts_nil) (fun _ _ _ _ _ => (pe_ix (ix_U (K := K) rfl (hu_of hr)) (pv 3) pe_int (fun _ _ => rfl)))) pa_nil)) (nomark _))
      (pss_one (ps_ret pe_bl))
      pss_nil)
      (pss_cons (ps_set (i := 2) sc_is_order.nd rfl (.inr rfl) (pe_dc (own := [("at", 4), ("one", 3)]) (by rfl) sc_is_order.nd (pi_enumK (K := K) rfl (by rfl) T.n_enumerate (pa_cons (pv 1) pa_nil)) (blkOk_by (own := [("at", 4), ("one", 3)]) (N := ["dealings", "row", "places", "one", "at", "other"]) (sc := defScope s_is_order) (by decide +kernel)) (fun _ _ _ _ _ => (pg_tupK (K := K) (n := 2) rfl rfl (pgs_cons (pg_name (i := 4) sc_is_order.nd rfl (.inl rfl)) (pgs_cons (pg_name (i := 3) sc_is_order.nd rfl (.inl rfl)) pgs_nil)))) (fun _ _ _ _ _ => pts_nil) (fun _ _ _ _ _ => (pv 3)) (fun _ _ _ _ _ => (pv 4))))
      (pss_one (ps_ret (pe_callB (cr_allU (K := K) rfl rfl) (by rfl) T.n_all (by decide +kernel) (pa_cons (pe_lc (own := [("one", 3), ("other", 5)]) (by rfl) sc_is_order.nd (pi_listK (K := K) rfl (pe_callO (ok_ties (K := K) T) hr (by rfl) (pa_cons (pv 0) pa_nil))) (blkOk_by (own := [("one", 3), ("other", 5)]) (N := ["dealings", "row", "places", "one", "at", "other"]) (sc := defScope s_is_order) (by decide +kernel)) (fun _ _ _ _ _ => (pg_tupK (K := K) (n := 2) rfl rfl (pgs_cons (pg_name (i := 3) sc_is_order.nd rfl (.inl rfl)) (pgs_cons (pg_name (i := 5) sc_is_order.nd rfl (.inl rfl)) pgs_nil)))) (fun _ _ _ _ _ => pts_nil) (fun _ _ _ _ _ => (pe_cmpR op_ltU (pe_ix (ix_U (K := K) rfl (hu_of hr)) (pv 2) (pv 3) (fun _ _ => rfl)) (pe_ix (ix_U (K := K) rfl (hu_of hr)) (pv 2) (pv 5) (fun _ _ => rfl)) (nomark _)))) pa_nil)))))), ?_⟩
  walk_at "yn"
  obtain ⟨zs, ok, hzl⟩ := hin.ok
  have hrl := ok.len
  obtain ⟨rv, hrv, hrp⟩ := at_list_ref hin.at_
  obtain ⟨lv, hlv, hlp⟩ := at_list_ref hl
  have e0 := ints_of hlp
  subst e0
  walk_at "yy"
  refine y_sortInts S (S.l hlv) ?_
  refine y_newI S fun s1 B1 H bS hs1 hs10 S => ?_
  walk_at "yn"
  refine y_lcI (cx := rowC) (cy := .int) (fun r => some r.num) S (At.up (by walk_at "up") hin.at_) (by omega) (fun i z x B7 H7 D acc Kp Kn hz b7 hx S kp kn => ?_) (fun D B2 H b2 hD hnl S => ?_)
  · obtain ⟨t, a4, a5, a6, rfl, ht, -, -, -⟩ := at_row hx
    walk_at "yn"
    exact kp _ _ _ _ rfl (Same.refl _) .int S
  rw [fm_some] at hnl
  obtain ⟨nv, hnv, hnp⟩ := at_list_ref hnl
  have e0 := ints_of hnp
  subst e0
  walk_at "yy"
  refine y_sortInts S (S.l hnv) ?_
  refine y_newI S fun s2 B3 H b3 hs2 _ S => ?_
  refine y_neC (.list .int) S (.list (sqL (up_o (b2.trans b3) hs1)) (pr_ofIntsX _)) (.list (sqL hs2) (pr_ofIntsX _)) (by decide) ?_
  walk_at "yy"
  refine y_iteN (fun hc => ?_) (fun hc => ?_)
  · -- no order: the ties are not asked
    walk_at "yn"
    obtain ⟨ts, hts⟩ : ∃ ts, TiesOk rows ts := tiesOk_ex ok
    have e1 : isOrdB ts (rows.map (·.num)) l = false := by unfold isOrdB; rw [decide_eq_false hc]; rfl
    have := k ts B3 hts (by walk_at "up")
    rw [e1] at this
    exact this _ S
  have hperm := leI_perm.mp hc
  have lnd : l.Nodup := hperm.nodup_iff.mpr ok.nn
  walk_at "yn"
  refine y_enumK (S.l (up_l (by walk_at "up") hlv)) ?_
  refine y_dcG (walk_enum (K := K) (xs := l.map V.int)) S (fun i B4 kvs L1 => kvs = ((l.take i).map fun x => (x, (l.idxOf x : Int))).map enc ∧ L1 = []) ⟨rfl, rfl⟩ (fun i B4 H1 kvs L1 D hP b4 S1 => S1.l (up_l (by walk_at "up") hlv)) (fun i x B4 H1 H1' kvs L1 D Kp Kn hi hP b4 hD S hy kp kn => ?_) (fun B4 H kvs L1 pd hP b4 hpd0 S => ?_)
  · obtain ⟨T, x1, x2, rfl, hT, rfl, hx1, hx2⟩ := hy
    obtain ⟨rfl, rfl⟩ := hP
    dsimp only at hx1 hx2
    cases hx1
    rw [List.getElem?_map] at hx2
    obtain ⟨n, hn, rfl⟩ := Option.map_eq_some_iff.mp hx2
    obtain ⟨b5, S⟩ := S.newI (o := .tup [.int (i : Nat), .int n]) hT
    refine y_gtup (sqT upd_same) rfl ?_
    have htk : l.take (i + 1) = l.take i ++ [n] := by rw [List.take_add_one, hn]; rfl
    have hnn : n ∉ ((l.take i).map fun x => (x, (l.idxOf x : Int))).map (·.1) := by
      rw [List.map_map]
      intro hm
      have hm : n ∈ (l.take i).map id := hm
      rw [List.map_id] at hm
      have nd2 : (l.take (i + 1)).Nodup := lnd.sublist (List.take_sublist _ _)
      rw [htk] at nd2
      exact (List.nodup_append.mp nd2).2.2 _ hm _ (List.mem_singleton_self _) rfl
    walk_at "yn"
    refine kp (.inl n) _ _ _ _ (lenLt (by rw [List.length_map, List.length_map, List.length_take]; omega)) (b4.trans b5) S ⟨?_, rfl⟩
    rw [put_enc hnn, htk, List.map_append, List.map_append, List.map_append, ← idx_at lnd hn]
    rfl
  obtain ⟨rfl, rfl⟩ := hP
  rw [List.length_map, List.take_length] at S
  obtain ⟨B5, b5, hpd, S⟩ := S.frz 0 rfl hpd0
  try simp only [List.eraseIdx] at S
  walk_at "yn"
  refine y_sp0 S ⟨a, rows, zs, rfl, rfl, At.up (by walk_at "up") hin.at_, hrl, hw_of ok, hzl, fun p ws ts B6 hpr hts b6 H T => ?_⟩
  obtain ⟨hp0, S⟩ := S.backN0 T
  clear T
  obtain ⟨B7, b7, hp7, S⟩ := S.frz 0 rfl hp0
  try simp only [List.eraseIdx] at S
  have htl := ties_len ok hts
  have hats : At (.list (.tup2 .int .int)) K B7 (.ref p) ts := .list (sqL hp7) (pr_up at_up b7 (pr_pairs hpr))
  have hpq : SqL K B7 p ws := sqL hp7
  walk_at "yn"
  refine y_lcI (cx := .tup2 .int .int) (cy := .bool) (fun t => some (decide ((l.idxOf t.1 : Int) < l.idxOf t.2))) S hats (by omega) (fun i z x B8 H8 D acc Kp Kn hz b8 hx S kp kn => ?_) (fun D B8 H b8 hD hl8 S => ?_)
  · obtain ⟨tp, v1, v2, rfl, htp, hv1, hv2⟩ := at_tup2 hx
    have e1 := at_int hv1
    have e2 := at_int hv2
    subst e1 e2
    have hzt := tie_in ok hts (List.mem_of_getElem? hz)
    have lk : ∀ n ∈ rows.map (·.num), valV ((l.map fun x => (x, (l.idxOf x : Int))).map enc) (.inl n) = some (.int (l.idxOf n)) := fun n hn => by
      rw [valV_enc, mem_look (v := (l.idxOf n : Int)) (by rw [List.map_map]; show (l.map id).Nodup; rw [List.map_id]; exact lnd) (List.mem_map.mpr ⟨n, hperm.mem_iff.mpr hn, rfl⟩)]
      rfl
    walk_at "yn"
    refine y_ixD (k := .inl z.1) (S.rd (up_o (by walk_at "up") hpd)) rfl (lk _ hzt.1) ?_
    walk_at "yn"
    refine y_ixD (k := .inl z.2) (S.rd (up_o (by walk_at "up") hpd)) rfl (lk _ hzt.2) ?_
    walk_at "yn"
    exact kp _ _ _ _ rfl (Same.refl _) .bool S
  rw [fm_some] at hl8
  obtain ⟨vb, qb, pb⟩ := at_list_ref hl8
  have e0 := bools_of pb
  subst e0
  walk_at "yn"
  refine y_all (S.l qb) ?_
  rw [map_all]
  have e1 : isOrdB ts (rows.map (·.num)) l = ts.all fun t => decide ((l.idxOf t.1 : Int) < l.idxOf t.2) := by unfold isOrdB; rw [decide_eq_true hc]; rfl
  have := k ts B8 hts (by walk_at "up")
  rw [e1] at this
  exact this _ S
theorem ok_is_order (T : Tx K mg) : Ok P w K mg base 6 "is_order" ["dealings", "row"] (spY (φ_is_order K)) :=
  Ok.of T.F_is_order T.g_is_order (fun _ _ _ _ _ _ us hl => match us, hl with | [_, _], _ => rfl) (fn_is_order T)
theorem isOrd_good {zs : List Str} {rows : List Dl} (ok : DealsOk zs rows) {ts : List (Int × Int)} (ht : TiesOk rows ts) {pl : Int → Int} {l : List Int} (h : Ord ts pl (rows.map (·.num)) (some l)) : isOrdB ts (rows.map (·.num)) l = true := by
  obtain ⟨h1, h2⟩ := h.good ok.nn
  unfold isOrdB
  rw [decide_eq_true (leI_perm.mpr h1), Bool.true_and, List.all_eq_true]
  intro t hm
  have hi := tie_in ok ht (show (t.1, t.2) ∈ ts from hm)
  have := h2 t.1 t.2 hm hi.1 hi.2
  exact decide_eq_true (by omega)

theorem left_nopred {ts : List (Int × Int)} (n : Nat) : ∀ {l : List Int}, l.length ≤ n → leftF ts l = [] → ∀ {m : List Int}, m ≠ [] → (∀ x ∈ m, x ∈ l) → ∃ x ∈ m, NoPred ts m x := by
  induction n with
  | zero =>
    intro l hl _ m hm hs
    have e : l = [] := List.length_eq_zero_iff.mp (by omega)
    cases m with
    | nil => exact absurd rfl hm
    | cons a m => have := hs a List.mem_cons_self; rw [e] at this; cases this
  | succ n ih =>
    intro l hl h m hm hs
    by_cases c : (leftStep ts l).length < l.length
    · have h2 : leftF ts (leftStep ts l) = [] := leftF_step.trans h
      have key : ∀ y ∈ l, y ∉ leftStep ts l → ∀ x ∈ l, (y, x) ∉ ts := fun y hy hny x hx hyx => hny (List.mem_filter.mpr ⟨hy, List.any_eq_true.mpr ⟨x, succ_iff.mpr hyx, decide_eq_true hx⟩⟩)
      by_cases c2 : m.filter (fun x => decide (x ∈ leftStep ts l)) = []
      · obtain ⟨x, hx⟩ := List.exists_mem_of_ne_nil _ hm
        refine ⟨x, hx, fun t ht e hy => ?_⟩
        have hny : t.1 ∉ leftStep ts l := fun z => by
          have := List.filter_eq_nil_iff.mp c2 _ hy
          exact this (decide_eq_true z)
        exact key _ (hs _ hy) hny _ (hs _ hx) (by rw [← e]; exact ht)
      · obtain ⟨x, hx, hn⟩ := ih (by omega) h2 c2 fun x hx => of_decide_eq_true (List.mem_filter.mp hx).2
        have hxm := (List.mem_filter.mp hx).1
        refine ⟨x, hxm, fun t ht e hy => ?_⟩
        by_cases c3 : t.1 ∈ leftStep ts l
        · exact hn t ht e (List.mem_filter.mpr ⟨hy, decide_eq_true c3⟩)
        · exact key _ (hs _ hy) c3 _ (hs _ hxm) (by rw [← e]; exact ht)
    · have hf : leftStep ts l = l := leftStep_fix (by have := leftStep_len (ts := ts) (l := l); omega)
      rw [leftF_fix hf] at h
      obtain ⟨x, hx⟩ := List.exists_mem_of_ne_nil _ hm
      have := hs x hx
      rw [h] at this
      cases this
theorem ord_none {ts : List (Int × Int)} {pl : Int → Int} {nums : List Int} (hl : leftF ts nums = []) {l : List Int} (hs : ∀ x ∈ l, x ∈ nums) : ¬ Ord ts pl l none := by
  intro h
  generalize ho : (none : Option (List Int)) = o at h
  induction h with
  | done => cases ho
  | stuck hne hst =>
    obtain ⟨x, hx, hn⟩ := left_nopred _ (Nat.le_refl _) hl hne hs
    exact hst x hx hn
  | @step left x o hx r ih =>
    cases o with
    | some _ => cases ho
    | none => exact ih (fun y hy => hs y (List.mem_filter.mp hy).1) rfl
theorem ord_ring {ts : List (Int × Int)} {pl : Int → Int} {nums l : List Int} (h : Ord ts pl nums (some l)) (nd : nums.Nodup) (hin : ∀ x ∈ ts, x.1 ∈ nums ∧ x.2 ∈ nums) {ns : List Int} : ¬ IsRing ts ns := by
  intro hr
  obtain ⟨_, hf⟩ := h.good nd
  have hpos : 0 < ns.length := List.length_pos_iff.mpr hr.ne
  have fw : ∀ a b, (a, b) ∈ ts → l.idxOf a < l.idxOf b := fun a b hab => hf a b hab (hin _ hab).1 (hin _ hab).2
  have step : ∀ i, i < ns.length → ∀ x y, ns[0]? = some x → ns[i]? = some y → i ≤ l.idxOf y ∧ l.idxOf x + i ≤ l.idxOf y := by
    intro i
    induction i with
    | zero =>
      intro _ x y hx hy
      rw [hx] at hy
      cases hy
      exact ⟨Nat.zero_le _, Nat.le_refl _⟩
    | succ i ih =>
      intro hi x y hx hy
      obtain ⟨z, hz⟩ : ∃ z, ns[i]? = some z := ⟨_, List.getElem?_eq_getElem (by omega)⟩
      have h1 := ih (by omega) x z hx hz
      have h2 := fw z y (hr.lk i z y (by omega) hz (by rw [Nat.mod_eq_of_lt hi]; exact hy))
      omega
  obtain ⟨x, hx⟩ : ∃ x, ns[0]? = some x := ⟨_, List.getElem?_eq_getElem hpos⟩
  obtain ⟨y, hy⟩ : ∃ y, ns[ns.length - 1]? = some y := ⟨_, List.getElem?_eq_getElem (by omega)⟩
  have h1 := step _ (by omega) x y hx hy
  have h2 := fw y x (hr.lk (ns.length - 1) y x (by omega) hy (by rw [show ns.length - 1 + 1 = ns.length by omega, Nat.mod_self]; exact hx))
  omega

/-! ### ties of lists of dealings that are alike, in plain words -/
theorem between_iff {one other : Dl} {key : Str} {rows : List Dl} {q : Dl → Bool} : ((betweenF one other key rows).filter q).isEmpty = true ↔ ∀ r ∈ rows, key ∈ r.writes → r.num ≠ one.num → r.num ≠ other.num → q r = false := by
  rw [empty_iff]
  unfold betweenF
  constructor
  · intro h r hr h1 h2 h3
    exact h r (List.mem_filter.mpr ⟨hr, by simp [h1, h2, h3]⟩)
  · intro h r hr
    obtain ⟨h1, h2⟩ := List.mem_filter.mp hr
    simp only [Bool.and_eq_true, decide_eq_true_eq, Bool.not_eq_true', decide_eq_false_iff_not] at h2
    exact h r h1 h2.1 h2.2.1 h2.2.2
theorem tieP_iff {zs : List Str} {rows : List Dl} (ok : DealsOk zs rows) {x : Int × Int} : TieP rows x ↔ ∃ one ∈ rows, ∃ other ∈ rows, one.num ≠ other.num ∧ x = (one.num, other.num) ∧ ∃ key, tiedB one other key rows = true := by
  constructor
  · rintro ⟨key, h⟩
    obtain ⟨one, h1, other, h2, hne, rfl, _⟩ := tieK_of ok h
    exact ⟨one, h1, other, h2, hne, rfl, key, (tied_iff ok h1 h2 hne).mpr h⟩
  · rintro ⟨one, h1, other, h2, hne, rfl, key, h⟩
    exact ⟨key, (tied_iff ok h1 h2 hne).mp h⟩
theorem ties_of {rows rows' : List Dl} {ts : List (Int × Int)} (h : TiesOk rows ts) (hp : ∀ x, TieP rows x ↔ TieP rows' x) : TiesOk rows' ts := by
  have h2 := h.mem
  exact { h with mem := fun x => (h2 x).trans (hp x) }
theorem plOf_eq {rows : List Dl} (nn : (rows.map (·.num)).Nodup) {r : Dl} (hr : r ∈ rows) : plOf rows r.num = r.place := by
  unfold plOf
  rw [mem_look (v := r.place) (by rw [List.map_map]; exact nn) (List.mem_map.mpr ⟨r, hr, rfl⟩)]
  rfl
/-- an order hangs on the ties, who is there, and whose place is less -/
theorem Ord.like {ts : List (Int × Int)} {pl pl' : Int → Int} {left left' : List Int} {o : Option (List Int)} (h : Ord ts pl left o) (hp : ∀ x, x ∈ left ↔ x ∈ left') (hl : ∀ x ∈ left, ∀ y ∈ left, leT (pl x, x) (pl y, y) = leT (pl' x, x) (pl' y, y)) : Ord ts pl' left' o := by
  induction h generalizing left' with
  | done =>
    cases left' with
    | nil => exact .done
    | cons a l => exact absurd ((hp a).mpr List.mem_cons_self) (by simp)
  | @stuck left hne hs =>
    have np : ∀ x, NoPred ts left x ↔ NoPred ts left' x := fun x => ⟨fun h t ht e z => h t ht e ((hp _).mpr z), fun h t ht e z => h t ht e ((hp _).mp z)⟩
    refine .stuck (fun e => ?_) (fun x hx h => hs x ((hp x).mpr hx) ((np x).mpr h))
    obtain ⟨x, hx⟩ := List.exists_mem_of_ne_nil _ hne
    have := (hp x).mp hx
    rw [e] at this
    cases this
  | @step left x o hx r ih =>
    have np : ∀ x, NoPred ts left x ↔ NoPred ts left' x := fun x => ⟨fun h t ht e z => h t ht e ((hp _).mpr z), fun h t ht e z => h t ht e ((hp _).mp z)⟩
    refine .step ⟨(hp x).mp hx.mem, (np x).mp hx.np, fun y hy hn => ?_⟩ (ih (fun y => ?_) fun y hy z hz => hl y (List.mem_filter.mp hy).1 z (List.mem_filter.mp hz).1)
    · have hy' := (hp y).mpr hy
      rw [← hl x hx.mem y hy']
      exact hx.least y hy' ((np y).mpr hn)
    · rw [List.mem_filter, List.mem_filter, hp y]
/-- one without ties may be left out -/
theorem Ord.out {ts : List (Int × Int)} {pl : Int → Int} {left : List Int} {o : Option (List Int)} (h : Ord ts pl left o) {n : Int} (hn : ∀ t ∈ ts, t.1 ≠ n ∧ t.2 ≠ n) : Ord ts pl (left.filter fun y => !decide (y = n)) (o.map fun l => l.filter fun y => !decide (y = n)) := by
  induction h with
  | done => exact .done
  | @stuck left hne hs =>
    have hm : n ∉ left := fun z => hs n z fun t ht e => absurd e (hn t ht).2
    have e : (left.filter fun y => !decide (y = n)) = left := List.filter_eq_self.mpr fun y hy => by
      have : y ≠ n := fun z => hm (by rw [← z]; exact hy)
      simp [this]
    rw [e]
    exact .stuck hne hs
  | @step left x o hx r ih =>
    by_cases c : x = n
    · subst c
      have e1 : ((left.filter fun y => !decide (y = x)).filter fun y => !decide (y = x)) = left.filter fun y => !decide (y = x) := List.filter_eq_self.mpr fun y hy => (List.mem_filter.mp hy).2
      rw [e1] at ih
      have e2 : (o.map (x :: ·)).map (fun l : List Int => l.filter fun y => !decide (y = x)) = o.map fun l => l.filter fun y => !decide (y = x) := by
        rw [Option.map_map]
        congr 1
        funext l
        simp
      rw [e2]
      exact ih
    · have e2 : (o.map (x :: ·)).map (fun l : List Int => l.filter fun y => !decide (y = n)) = (o.map fun l => l.filter fun y => !decide (y = n)).map (x :: ·) := by
        rw [Option.map_map, Option.map_map]
        congr 1
        funext l
        simp [c]
      rw [e2]
      have np : ∀ y, NoPred ts (left.filter fun y => !decide (y = n)) y → NoPred ts left y := fun y h t ht e z => h t ht e (List.mem_filter.mpr ⟨z, by simp [(hn t ht).1]⟩)
      refine .step ⟨List.mem_filter.mpr ⟨hx.mem, by simp [c]⟩, fun t ht e z => hx.np t ht e (List.mem_filter.mp z).1, fun y hy h => hx.least y (List.mem_filter.mp hy).1 (np y h)⟩ ?_
      rw [List.filter_filter] at ih ⊢
      rw [show (fun y : Int => !decide (y = x) && !decide (y = n)) = fun y => !decide (y = n) && !decide (y = x) from funext fun y => Bool.and_comm _ _]
      exact ih
/-! told otherwise -/
structure SpR (b : Int) (r d : Dl) : Prop where
  num : d.num = r.num
  stand : d.stand = r.stand * b
  place : d.place = r.place * b
  asks : ∀ key, asksB d key = asksB r key
  wr : ∀ key, key ∈ d.writes ↔ key ∈ r.writes
structure Spread (b : Int) (rows ds : List Dl) : Prop where
  to : ∀ r ∈ rows, ∃ d ∈ ds, SpR b r d
  of : ∀ d ∈ ds, ∃ r ∈ rows, SpR b r d
  nums : (ds.map (·.num)).Perm (rows.map (·.num))
theorem mulLt {x y b : Int} (h : 0 < b) : x * b < y * b ↔ x < y := ⟨fun z => Int.lt_of_mul_lt_mul_right z (Int.le_of_lt h), fun z => Int.mul_lt_mul_of_pos_right z h⟩
theorem mulLe {x y b : Int} (h : 0 < b) : x * b ≤ y * b ↔ x ≤ y := by
  have := mulLt (x := y) (y := x) h
  omega
section
variable {b : Int} {rows ds : List Dl} {zs : List Str}
theorem Spread.between (h : Spread b rows ds) {one other one' other' : Dl} (h1 : SpR b one one') (h2 : SpR b other other') {key : Str} {q q' : Dl → Bool} (hq : ∀ r d, SpR b r d → q' d = q r) : ((betweenF one' other' key ds).filter q').isEmpty = ((betweenF one other key rows).filter q).isEmpty := by
  rw [Bool.eq_iff_iff, between_iff, between_iff, h1.num, h2.num]
  constructor
  · intro g r hr hw a1 a2
    obtain ⟨d, hd, hs⟩ := h.to r hr
    rw [← hq r d hs]
    exact g d hd ((hs.wr key).mpr hw) (by rw [hs.num]; exact a1) (by rw [hs.num]; exact a2)
  · intro g d hd hw a1 a2
    obtain ⟨r, hr, hs⟩ := h.of d hd
    rw [hq r d hs]
    exact g r hr ((hs.wr key).mp hw) (by rw [← hs.num]; exact a1) (by rw [← hs.num]; exact a2)
theorem Spread.tied (h : Spread b rows ds) (hb : 0 < b) {one other one' other' : Dl} (h1 : SpR b one one') (h2 : SpR b other other') (key : Str) : tiedB one' other' key ds = tiedB one other key rows := by
  have w1 : decide (key ∈ one'.writes) = decide (key ∈ one.writes) := by rw [decide_eq_decide]; exact h1.wr key
  have w2 : decide (key ∈ other'.writes) = decide (key ∈ other.writes) := by rw [decide_eq_decide]; exact h2.wr key
  unfold tiedB tie1 tie2 tie3
  rw [h.between h1 h2 (q := fun r => decide (one.place < r.place) && decide (r.place < other.place)) (fun r d hs => by
      rw [hs.place, h1.place, h2.place, show decide (one.place * b < r.place * b) = decide (one.place < r.place) from decide_eq_decide.mpr (mulLt hb), show decide (r.place * b < other.place * b) = decide (r.place < other.place) from decide_eq_decide.mpr (mulLt hb)]),
    h.between h1 h2 (q := fun r => decide (one.place < r.place) && decide (r.place ≤ other.stand)) (fun r d hs => by
      rw [hs.place, h1.place, h2.stand, show decide (one.place * b < r.place * b) = decide (one.place < r.place) from decide_eq_decide.mpr (mulLt hb), show decide (r.place * b ≤ other.stand * b) = decide (r.place ≤ other.stand) from decide_eq_decide.mpr (mulLe hb)]),
    h.between h1 h2 (q := fun r => decide (one.stand < r.place) && decide (r.place < other.place)) (fun r d hs => by
      rw [hs.place, h1.stand, h2.place, show decide (one.stand * b < r.place * b) = decide (one.stand < r.place) from decide_eq_decide.mpr (mulLt hb), show decide (r.place * b < other.place * b) = decide (r.place < other.place) from decide_eq_decide.mpr (mulLt hb)]),
    w1, w2, h1.asks, h2.asks, h1.place, h1.stand, h2.place, h2.stand]
  rw [show decide (one.place * b < other.place * b) = decide (one.place < other.place) from decide_eq_decide.mpr (mulLt hb),
    show decide (one.place * b ≤ other.stand * b) = decide (one.place ≤ other.stand) from decide_eq_decide.mpr (mulLe hb),
    show decide (one.stand * b < other.place * b) = decide (one.stand < other.place) from decide_eq_decide.mpr (mulLt hb)]
theorem Spread.tie (h : Spread b rows ds) (hb : 0 < b) (ok : DealsOk zs rows) (ok' : DealsOk zs ds) (x : Int × Int) : TieP rows x ↔ TieP ds x := by
  rw [tieP_iff ok, tieP_iff ok']
  constructor
  · rintro ⟨one, h1, other, h2, hne, rfl, key, ht⟩
    obtain ⟨one', g1, s1⟩ := h.to one h1
    obtain ⟨other', g2, s2⟩ := h.to other h2
    exact ⟨one', g1, other', g2, by rw [s1.num, s2.num]; exact hne, by rw [s1.num, s2.num], key, by rw [h.tied hb s1 s2]; exact ht⟩
  · rintro ⟨one', g1, other', g2, hne, rfl, key, ht⟩
    obtain ⟨one, h1, s1⟩ := h.of one' g1
    obtain ⟨other, h2, s2⟩ := h.of other' g2
    rw [h.tied hb s1 s2] at ht
    exact ⟨one, h1, other, h2, by rw [← s1.num, ← s2.num]; exact hne, by rw [s1.num, s2.num], key, ht⟩
theorem Spread.ord (h : Spread b rows ds) (hb : 0 < b) (ok : DealsOk zs rows) (ok' : DealsOk zs ds) {ts : List (Int × Int)} {o : Option (List Int)} (ho : Ord ts (plOf rows) (rows.map (·.num)) o) : Ord ts (plOf ds) (ds.map (·.num)) o := by
  refine Ord.like ho (fun x => (h.nums.mem_iff).symm) fun x hx y hy => ?_
  obtain ⟨r, hr, rfl⟩ := List.mem_map.mp hx
  obtain ⟨s, hs, rfl⟩ := List.mem_map.mp hy
  obtain ⟨r', hr', sr⟩ := h.to r hr
  obtain ⟨s', hs', ss⟩ := h.to s hs
  have e1 : plOf ds r.num = r.place * b := by rw [← sr.num, plOf_eq ok'.nn hr', sr.place]
  have e2 : plOf ds s.num = s.place * b := by rw [← ss.num, plOf_eq ok'.nn hs', ss.place]
  rw [plOf_eq ok.nn hr, plOf_eq ok.nn hs, e1, e2, Bool.eq_iff_iff, leT_iff, leT_iff]
  show r.place < s.place ∨ (r.place = s.place ∧ r.num ≤ s.num) ↔ r.place * b < s.place * b ∨ (r.place * b = s.place * b ∧ r.num ≤ s.num)
  rw [mulLt hb]
  constructor
  · rintro (z | ⟨z, w⟩)
    · exact .inl z
    · exact .inr ⟨by rw [z], w⟩
  · rintro (z | ⟨z, w⟩)
    · exact .inl z
    · exact .inr ⟨Int.eq_of_mul_eq_mul_right (Int.ne_of_gt hb) z, w⟩
end
/-! one that writes nothing is out -/
theorem idle_tie {zs : List Str} {rows : List Dl} (ok : DealsOk zs rows) {n : Int} (hn : ∀ r ∈ rows, r.num = n → r.writes = []) (x : Int × Int) : TieP (rows.filter fun r => !decide (r.num = n)) x ↔ TieP rows x ∧ n ≠ x.1 ∧ n ≠ x.2 := by
  have ok' : DealsOk zs (rows.filter fun r => !decide (r.num = n)) := ⟨fun r hr => ok.each r (List.mem_filter.mp hr).1, ok.nn.sublist (List.filter_sublist.map _), ok.np.sublist (List.filter_sublist.map _), Nat.le_trans (List.length_filter_le _ _) ok.len⟩
  have mem : ∀ r, r ∈ rows.filter (fun r => !decide (r.num = n)) ↔ r ∈ rows ∧ r.num ≠ n := fun r => by rw [List.mem_filter]; simp
  have eq : ∀ one other key, tiedB one other key (rows.filter fun r => !decide (r.num = n)) = tiedB one other key rows := fun one other key => by
    have e : betweenF one other key (rows.filter fun r => !decide (r.num = n)) = betweenF one other key rows := by
      unfold betweenF
      rw [List.filter_filter]
      apply List.filter_congr
      intro r hr
      by_cases c : r.num = n
      · rw [hn r hr c]
        simp
      · simp [c]
    unfold tiedB tie1 tie2 tie3
    rw [e]
  rw [tieP_iff ok, tieP_iff ok']
  constructor
  · rintro ⟨one, h1, other, h2, hne, rfl, key, ht⟩
    rw [eq] at ht
    obtain ⟨a1, a2⟩ := (mem one).mp h1
    obtain ⟨b1, b2⟩ := (mem other).mp h2
    exact ⟨⟨one, a1, other, b1, hne, rfl, key, ht⟩, fun z => a2 z.symm, fun z => b2 z.symm⟩
  · rintro ⟨⟨one, h1, other, h2, hne, rfl, key, ht⟩, c1, c2⟩
    exact ⟨one, (mem one).mpr ⟨h1, fun z => c1 z.symm⟩, other, (mem other).mpr ⟨h2, fun z => c2 z.symm⟩, hne, rfl, key, by rw [eq]; exact ht⟩
/-! one more, of a key that none asks -/
structure More (rows more : List Dl) (m : Dl) : Prop where
  perm : more.Perm (m :: rows)
  asks : ∀ key, asksB m key = decide (key ∈ m.writes)
  ask0 : ∀ r ∈ rows, ∀ key ∈ m.writes, asksB r key = false
  wr0 : ∀ r ∈ rows, ∀ key ∈ m.writes, key ∉ r.writes
section
variable {rows more : List Dl} {m : Dl} {zs : List Str}
theorem More.tied (h : More rows more m) {one other : Dl} (h1 : one ∈ rows) (h2 : other ∈ rows) (key : Str) : tiedB one other key more = tiedB one other key rows := by
  by_cases c : key ∈ m.writes
  · have w1 : decide (key ∈ one.writes) = false := decide_eq_false (h.wr0 one h1 key c)
    have w2 : decide (key ∈ other.writes) = false := decide_eq_false (h.wr0 other h2 key c)
    unfold tiedB tie1 tie2 tie3
    rw [w1, w2]
    simp
  · have e : ∀ q, ((betweenF one other key more).filter q).isEmpty = ((betweenF one other key rows).filter q).isEmpty := fun q => by
      rw [Bool.eq_iff_iff, between_iff, between_iff]
      constructor
      · intro g r hr
        exact g r (h.perm.mem_iff.mpr (List.mem_cons_of_mem _ hr))
      · intro g r hr hw
        rcases List.mem_cons.mp (h.perm.mem_iff.mp hr) with rfl | hr
        · exact absurd hw c
        · exact g r hr hw
    unfold tiedB tie1 tie2 tie3
    rw [e, e, e]
theorem More.none (h : More rows more m) {other : Dl} (h2 : other ∈ rows) (key : Str) : tiedB m other key more = false ∧ tiedB other m key more = false := by
  by_cases c : key ∈ m.writes
  · have w2 : decide (key ∈ other.writes) = false := decide_eq_false (h.wr0 other h2 key c)
    have a2 := h.ask0 other h2 key c
    unfold tiedB tie1 tie2 tie3
    rw [w2, a2]
    simp
  · have w1 : decide (key ∈ m.writes) = false := decide_eq_false c
    have a1 := h.asks key
    rw [w1] at a1
    unfold tiedB tie1 tie2 tie3
    rw [w1, a1]
    simp
theorem More.tie (h : More rows more m) (ok : DealsOk zs rows) {zs' : List Str} (ok' : DealsOk zs' more) (x : Int × Int) : TieP rows x ↔ TieP more x := by
  rw [tieP_iff ok, tieP_iff ok']
  constructor
  · rintro ⟨one, h1, other, h2, hne, rfl, key, ht⟩
    exact ⟨one, h.perm.mem_iff.mpr (List.mem_cons_of_mem _ h1), other, h.perm.mem_iff.mpr (List.mem_cons_of_mem _ h2), hne, rfl, key, by rw [h.tied h1 h2]; exact ht⟩
  · rintro ⟨one, h1, other, h2, hne, rfl, key, ht⟩
    rcases List.mem_cons.mp (h.perm.mem_iff.mp h1) with rfl | h1
    · rcases List.mem_cons.mp (h.perm.mem_iff.mp h2) with rfl | h2
      · exact absurd rfl hne
      · rw [(h.none h2 key).1] at ht
        cases ht
    · rcases List.mem_cons.mp (h.perm.mem_iff.mp h2) with rfl | h2
      · rw [(h.none h1 key).2] at ht
        cases ht
      · rw [h.tied h1 h2] at ht
        exact ⟨one, h1, other, h2, hne, rfl, key, ht⟩
theorem More.ord (h : More rows more m) (ok : DealsOk zs rows) {zs' : List Str} (ok' : DealsOk zs' more) {ts : List (Int × Int)} (ht : TiesOk rows ts) {o : Option (List Int)} (ho : Ord ts (plOf more) (more.map (·.num)) o) : Ord ts (plOf rows) (rows.map (·.num)) (o.map fun l => l.filter fun y => !decide (y = m.num)) := by
  have nm : ∀ r ∈ rows, r.num ≠ m.num := fun r hr e => by
    have nd := (h.perm.map (·.num)).nodup_iff.mp ok'.nn
    exact (List.nodup_cons.mp nd).1 (List.mem_map.mpr ⟨r, hr, e⟩)
  have hn : ∀ t ∈ ts, t.1 ≠ m.num ∧ t.2 ≠ m.num := fun t hm => by
    obtain ⟨h1, h2⟩ := tie_in ok ht hm
    obtain ⟨r, hr, e⟩ := List.mem_map.mp h1
    obtain ⟨s, hs, e2⟩ := List.mem_map.mp h2
    exact ⟨fun z => nm r hr (e.trans z), fun z => nm s hs (e2.trans z)⟩
  refine Ord.like (Ord.out ho hn) (fun x => ?_) fun x hx y hy => ?_
  · rw [List.mem_filter]
    constructor
    · rintro ⟨h1, h2⟩
      obtain ⟨r, hr, rfl⟩ := List.mem_map.mp h1
      rcases List.mem_cons.mp (h.perm.mem_iff.mp hr) with rfl | hr
      · simp at h2
      · exact List.mem_map.mpr ⟨r, hr, rfl⟩
    · intro h1
      obtain ⟨r, hr, rfl⟩ := List.mem_map.mp h1
      exact ⟨List.mem_map.mpr ⟨r, h.perm.mem_iff.mpr (List.mem_cons_of_mem _ hr), rfl⟩, by simp [nm r hr]⟩
  · have pl : ∀ z ∈ (more.map (·.num)).filter (fun y => !decide (y = m.num)), plOf more z = plOf rows z := fun z hz => by
      obtain ⟨h1, h2⟩ := List.mem_filter.mp hz
      obtain ⟨r, hr, rfl⟩ := List.mem_map.mp h1
      rcases List.mem_cons.mp (h.perm.mem_iff.mp hr) with rfl | hr2
      · simp at h2
      · rw [plOf_eq ok'.nn hr, plOf_eq ok.nn hr2]
    rw [pl x hx, pl y hy]
end

theorem idx_lt {l : List Int} (nd : l.Nodup) : l.Pairwise fun a b => l.idxOf a < l.idxOf b := by
  rw [List.pairwise_iff_getElem]
  intro i j hi hj hij
  rw [nd.idxOf_getElem, nd.idxOf_getElem]
  exact hij

/-! ### long lists of dealings, in plain words -/
theorem tied_prop {one other : Dl} {key : Str} {rows : List Dl} : tiedB one other key rows = true ↔
    (key ∈ one.writes ∧ key ∈ other.writes ∧ one.place < other.place ∧ ∀ r ∈ rows, key ∈ r.writes → r.num ≠ one.num → r.num ≠ other.num → ¬ (one.place < r.place ∧ r.place < other.place)) ∨
    (key ∈ one.writes ∧ asksB other key = true ∧ one.place ≤ other.stand ∧ ∀ r ∈ rows, key ∈ r.writes → r.num ≠ one.num → r.num ≠ other.num → ¬ (one.place < r.place ∧ r.place ≤ other.stand)) ∨
    (key ∈ other.writes ∧ asksB one key = true ∧ one.stand < other.place ∧ ∀ r ∈ rows, key ∈ r.writes → r.num ≠ one.num → r.num ≠ other.num → ¬ (one.stand < r.place ∧ r.place < other.place)) := by
  have e : ∀ {a b : Int → Prop} [DecidablePred a] [DecidablePred b] (x : Int), ((decide (a x) && decide (b x)) = false) ↔ ¬ (a x ∧ b x) := fun x => by
    rw [← Bool.not_eq_true, Bool.and_eq_true, decide_eq_true_iff, decide_eq_true_iff]
  unfold tiedB tie1 tie2 tie3
  simp only [Bool.or_eq_true, Bool.and_eq_true, decide_eq_true_eq, between_iff, and_assoc]
  simp only [← Bool.not_eq_true, Bool.and_eq_true, decide_eq_true_eq]
theorem TieP.perm {zs zs' : List Str} {rows rows' : List Dl} (ok : DealsOk zs rows) (ok' : DealsOk zs' rows') (h : ∀ r, r ∈ rows ↔ r ∈ rows') (x : Int × Int) : TieP rows x ↔ TieP rows' x := by
  have ht : ∀ one other key, tiedB one other key rows = tiedB one other key rows' := fun one other key => by
    rw [Bool.eq_iff_iff, tied_prop, tied_prop]
    simp only [h]
  rw [tieP_iff ok, tieP_iff ok']
  simp only [h, ht]
structure Made (pick : Int) (many : Nat) (rows : List Dl) (ps : List (Int × Int)) : Prop where
  ok : ∃ zs : List Str, zs.length ≤ 100 ∧ DealsOk zs rows
  nums : (rows.map (·.num)).Perm ((List.range many).map fun k : Nat => (k : Int) + 1)
  ties : TiesOk rows ps
  rk : pick ≠ 2 → ∃ rk : Int → Int, ∀ t ∈ ps, rk t.1 < rk t.2
  row : pick < 2 → ∀ k : Nat, k + 1 < many → ((k : Int) + 1, (k : Int) + 2) ∈ ps
  rnd : pick = 2 → ∀ x, x ∈ ps ↔ ∃ i : Nat, i < many ∧ x = ((i : Int) + 1, (((i + 1) % many : Nat) : Int) + 1)
theorem Made.perm {pick : Int} {many : Nat} {rows rows' : List Dl} {ps : List (Int × Int)} (h : Made pick many rows ps) (p : rows'.Perm rows) : Made pick many rows' ps := by
  obtain ⟨zs, hz, ok⟩ := h.ok
  have ok' : DealsOk zs rows' := ⟨fun r hr => ok.each r (p.mem_iff.mp hr), (p.map _).nodup_iff.mpr ok.nn, (p.map _).nodup_iff.mpr ok.np, by rw [p.length_eq]; exact ok.len⟩
  exact ⟨⟨zs, hz, ok'⟩, (p.map _).trans h.nums, ties_of h.ties (TieP.perm ok ok' fun r => p.mem_iff.symm), h.rk, h.row, h.rnd⟩
/-- from how each is made -/
theorem Made.of {pick : Int} {many : Nat} {zs : List Str} {mk : Nat → Dl} {ps : List (Int × Int)} (hz : zs.length ≤ 100) (hm : many ≤ 100) (hn : ∀ k, k < many → (mk k).num = (k : Int) + 1) (hp : ∀ k, k < many → (mk k).place = (k : Int) + 1) (hs0 : ∀ k, k < many → 0 ≤ (mk k).stand) (hs1 : ∀ k, k < many → (mk k).stand ≤ k)
    (hr : ∀ k, k < many → ∀ y ∈ (mk k).reads, y ∈ zs) (hw : ∀ k, k < many → ∀ y ∈ (mk k).writes, y ∈ zs) (hl : ∀ k, k < many → (mk k).reads.length ≤ 22 ∧ (mk k).writes.length ≤ 22 ∧ (mk k).ranges.length ≤ 2)
    (nd : ps.Nodup) (st : ps.Pairwise fun x y => leT x y = true)
    (ht : ∀ i j, i < many → j < many → i ≠ j → ((∃ key, tiedB (mk i) (mk j) key ((List.range many).map mk) = true) ↔ ((i : Int) + 1, (j : Int) + 1) ∈ ps))
    (hin : ∀ x ∈ ps, ∃ i j : Nat, i < many ∧ j < many ∧ i ≠ j ∧ x = ((i : Int) + 1, (j : Int) + 1))
    (rk : pick ≠ 2 → ∃ rk : Int → Int, ∀ t ∈ ps, rk t.1 < rk t.2) (row : pick < 2 → ∀ k : Nat, k + 1 < many → ((k : Int) + 1, (k : Int) + 2) ∈ ps)
    (rnd : pick = 2 → ∀ x, x ∈ ps ↔ ∃ i : Nat, i < many ∧ x = ((i : Int) + 1, (((i + 1) % many : Nat) : Int) + 1)) : Made pick many ((List.range many).map mk) ps := by
  have mem : ∀ r, r ∈ (List.range many).map mk ↔ ∃ k, k < many ∧ mk k = r := fun r => by simp [List.mem_map]
  have en : ((List.range many).map mk).map (·.num) = (List.range many).map fun k : Nat => (k : Int) + 1 := by
    rw [List.map_map]
    exact List.map_congr_left fun k hk => hn k (List.mem_range.mp hk)
  have ep : ((List.range many).map mk).map (·.place) = (List.range many).map fun k : Nat => (k : Int) + 1 := by
    rw [List.map_map]
    exact List.map_congr_left fun k hk => hp k (List.mem_range.mp hk)
  have ndr : ((List.range many).map fun k : Nat => (k : Int) + 1).Nodup := by
    rw [List.nodup_iff_pairwise_ne, List.pairwise_map]
    exact (List.nodup_iff_pairwise_ne.mp List.nodup_range).imp fun h e => h (by omega)
  have ok : DealsOk zs ((List.range many).map mk) := by
    refine ⟨fun r h => ?_, by rw [en]; exact ndr, by rw [ep]; exact ndr, by rw [List.length_map, List.length_range]; exact hm⟩
    obtain ⟨k, hk, rfl⟩ := (mem r).mp h
    have h1 := hn k hk
    have h2 := hp k hk
    have h3 := hs0 k hk
    have h4 := hs1 k hk
    obtain ⟨l1, l2, l3⟩ := hl k hk
    exact ⟨by omega, by omega, h3, by omega, by omega, hr k hk, hw k hk, l1, l2, l3⟩
  refine ⟨⟨zs, hz, ok⟩, by rw [en], ⟨nd, st, fun x => ?_⟩, rk, row, rnd⟩
  rw [tieP_iff ok]
  constructor
  · intro hx
    obtain ⟨i, j, hi, hj, hne, rfl⟩ := hin x hx
    refine ⟨mk i, (mem _).mpr ⟨i, hi, rfl⟩, mk j, (mem _).mpr ⟨j, hj, rfl⟩, ?_, ?_, (ht i j hi hj hne).mpr hx⟩
    · rw [hn i hi, hn j hj]; omega
    · rw [hn i hi, hn j hj]
  · rintro ⟨one, h1, other, h2, hne, rfl, hk⟩
    obtain ⟨i, hi, rfl⟩ := (mem one).mp h1
    obtain ⟨j, hj, rfl⟩ := (mem other).mp h2
    rw [hn i hi, hn j hj] at hne ⊢
    exact (ht i j hi hj (fun e => hne (by rw [e]))).mp hk
def kA : Str := "a"
def mk0 (k : Nat) : Dl := ⟨k + 1, k, k + 1, [kA], [], [kA]⟩
def rowPs (many : Nat) : List (Int × Int) := (List.range (many - 1)).map fun k : Nat => ((k : Int) + 1, (k : Int) + 2)
theorem rowPs_mem {many : Nat} {x : Int × Int} : x ∈ rowPs many ↔ ∃ k : Nat, k + 1 < many ∧ x = ((k : Int) + 1, (k : Int) + 2) := by
  unfold rowPs
  rw [List.mem_map]
  constructor
  · rintro ⟨k, hk, rfl⟩
    exact ⟨k, by have := List.mem_range.mp hk; omega, rfl⟩
  · rintro ⟨k, hk, rfl⟩
    exact ⟨k, List.mem_range.mpr (by omega), rfl⟩
theorem rowPs_nd (many : Nat) : (rowPs many).Nodup := by
  unfold rowPs
  rw [List.nodup_iff_pairwise_ne, List.pairwise_map]
  exact (List.nodup_iff_pairwise_ne.mp List.nodup_range).imp fun h e => h (by have := (Prod.mk.inj e).1; omega)
theorem rowPs_st (many : Nat) : (rowPs many).Pairwise fun x y => leT x y = true := by
  unfold rowPs
  rw [List.pairwise_map]
  exact List.pairwise_lt_range.imp fun h => leT_iff.mpr (.inl (by show (_ : Int) < _; omega))
theorem made0 {many : Nat} (hm : many ≤ 100) : Made 0 many ((List.range many).map mk0) (rowPs many) := by
  have asks : ∀ k key, asksB (mk0 k) key = true ↔ key = kA := fun k key => by unfold asksB mk0; simp
  have wr : ∀ k key, key ∈ (mk0 k).writes ↔ key = kA := fun k key => by unfold mk0; simp
  refine Made.of (zs := [kA]) (by simp) hm (fun _ _ => rfl) (fun _ _ => rfl) (fun k _ => by show (0 : Int) ≤ k; omega) (fun k _ => Int.le_refl _) (fun k _ y hy => hy) (fun k _ y hy => hy) (fun k _ => ⟨by show 1 ≤ 22; decide, by show 1 ≤ 22; decide, by show 0 ≤ 2; decide⟩) (rowPs_nd _) (rowPs_st _) (fun i j hi hj hne => ?_) (fun x hx => ?_) (fun _ => ⟨id, fun t ht => ?_⟩) (fun _ k hk => rowPs_mem.mpr ⟨k, hk, rfl⟩) (fun h => absurd h (by decide))
  · rw [rowPs_mem]
    have key : (∃ key, tiedB (mk0 i) (mk0 j) key ((List.range many).map mk0) = true) ↔ j = i + 1 := by
      constructor
      · rintro ⟨key, hk⟩
        rw [tied_prop] at hk
        have nx : i + 1 < many → i + 1 ≠ j → (∀ P : Int → Prop, (∀ r ∈ (List.range many).map mk0, key ∈ r.writes → r.num ≠ (mk0 i).num → r.num ≠ (mk0 j).num → ¬ P r.place) → key = kA → ¬ P ((i : Int) + 2)) := fun h1 h2 P hP hk => by
          have := hP (mk0 (i + 1)) (List.mem_map.mpr ⟨i + 1, List.mem_range.mpr h1, rfl⟩) ((wr _ _).mpr hk) (by show ((i + 1 : Nat) : Int) + 1 ≠ (i : Int) + 1; omega) (by show ((i + 1 : Nat) : Int) + 1 ≠ (j : Int) + 1; omega)
          have e : (mk0 (i + 1)).place = (i : Int) + 2 := by show ((i + 1 : Nat) : Int) + 1 = _; omega
          rw [e] at this
          exact this
        by_cases c : j = i + 1
        · exact c
        exfalso
        rcases hk with ⟨h1, _, h3, h4⟩ | ⟨h1, _, h3, h4⟩ | ⟨h1, _, h3, h4⟩
        · have h3 : (i : Int) + 1 < (j : Int) + 1 := h3
          exact nx (by omega) (by omega) (fun p => (mk0 i).place < p ∧ p < (mk0 j).place) h4 ((wr _ _).mp h1) ⟨by show (i : Int) + 1 < _; omega, by show _ < (j : Int) + 1; omega⟩
        · have h3 : (i : Int) + 1 ≤ (j : Int) := h3
          exact nx (by omega) (by omega) (fun p => (mk0 i).place < p ∧ p ≤ (mk0 j).stand) h4 ((wr _ _).mp h1) ⟨by show (i : Int) + 1 < _; omega, by show _ ≤ (j : Int); omega⟩
        · have h3 : (i : Int) < (j : Int) + 1 := h3
          exact nx (by omega) (by omega) (fun p => (mk0 i).stand < p ∧ p < (mk0 j).place) h4 ((wr _ _).mp h1) ⟨by show (i : Int) < _; omega, by show _ < (j : Int) + 1; omega⟩
      · rintro rfl
        refine ⟨kA, tied_prop.mpr (.inl ⟨(wr _ _).mpr rfl, (wr _ _).mpr rfl, by show (i : Int) + 1 < ((i + 1 : Nat) : Int) + 1; omega, fun r hr _ _ _ => ?_⟩)⟩
        obtain ⟨k, _, rfl⟩ := List.mem_map.mp hr
        show ¬ ((i : Int) + 1 < (k : Int) + 1 ∧ (k : Int) + 1 < ((i + 1 : Nat) : Int) + 1)
        omega
    rw [key]
    constructor
    · rintro rfl
      exact ⟨i, hj, Prod.ext rfl (by show ((i + 1 : Nat) : Int) + 1 = _; omega)⟩
    · rintro ⟨k, hk, e⟩
      have := Prod.mk.inj e
      omega
  · obtain ⟨k, hk, rfl⟩ := rowPs_mem.mp hx
    exact ⟨k, k + 1, by omega, hk, by omega, Prod.ext rfl (by show (k : Int) + 2 = ((k + 1 : Nat) : Int) + 1; omega)⟩
  · obtain ⟨k, hk, rfl⟩ := rowPs_mem.mp ht
    show (k : Int) + 1 < (k : Int) + 2
    omega
/-- the names of keys -/
def nmS (k : Nat) : Str := ⟨#[97 + k % 26, 97 + k / 26 % 26]⟩
theorem nmS_inj {i j : Nat} (hi : i < 676) (hj : j < 676) : nmS i = nmS j ↔ i = j := by
  constructor
  · intro h
    unfold nmS at h
    injection h with h
    injection h with h
    injection h with h1 h
    injection h with h2 _
    omega
  · intro h
    rw [h]
def mk1 (k : Nat) : Dl := ⟨k + 1, 0, k + 1, [nmS (k + 1)], [], [nmS k]⟩
def mk2 (many k : Nat) : Dl := ⟨k + 1, 0, k + 1, [nmS ((k + 1) % many)], [], [nmS k]⟩
/-- by who reads whose key -/
theorem tied12 {many : Nat} (hm : many ≤ 100) {nx : Nat → Nat} (hnx : ∀ k, k < many → nx k ≤ many) {mk : Nat → Dl} (hmk : ∀ k, mk k = ⟨k + 1, 0, k + 1, [nmS (nx k)], [], [nmS k]⟩) {i j : Nat} (hi : i < many) (hj : j < many) (hne : i ≠ j) : (∃ key, tiedB (mk i) (mk j) key ((List.range many).map mk) = true) ↔ j = nx i := by
  have asks : ∀ k key, asksB (mk k) key = true ↔ key = nmS (nx k) := fun k key => by rw [hmk]; unfold asksB; simp
  have wr : ∀ k key, key ∈ (mk k).writes ↔ key = nmS k := fun k key => by rw [hmk]; simp
  have sd : ∀ k, (mk k).stand = 0 := fun k => by rw [hmk]
  have pl : ∀ k, (mk k).place = (k : Int) + 1 := fun k => by rw [hmk]
  have nu : ∀ k, (mk k).num = (k : Int) + 1 := fun k => by rw [hmk]
  have hxi := hnx i hi
  have hxj := hnx j hj
  constructor
  · rintro ⟨key, hk⟩
    rw [tied_prop] at hk
    rcases hk with ⟨h1, h2, _, _⟩ | ⟨h1, _, h3, _⟩ | ⟨h1, h2, _, _⟩
    · rw [wr] at h1 h2
      exact absurd ((nmS_inj (by omega) (by omega)).mp (h1.symm.trans h2)) hne
    · rw [sd, pl] at h3
      omega
    · rw [wr] at h1
      rw [asks] at h2
      exact (nmS_inj (by omega) (by omega)).mp (h1.symm.trans h2)
  · intro e
    refine ⟨nmS j, tied_prop.mpr (.inr (.inr ⟨(wr _ _).mpr rfl, (asks _ _).mpr (by rw [e]), by rw [sd, pl]; omega, fun r hr hw _ h3 => ?_⟩))⟩
    obtain ⟨k, hk, rfl⟩ := List.mem_map.mp hr
    have hk := List.mem_range.mp hk
    rw [wr] at hw
    have := (nmS_inj (by omega) (by omega)).mp hw
    rw [nu, nu] at h3
    omega
theorem made1 {many : Nat} (hm : many ≤ 90) : Made 1 many ((List.range many).map mk1) (rowPs many) := by
  refine Made.of (zs := (List.range (many + 1)).map nmS) (by rw [List.length_map, List.length_range]; omega) (by omega) (fun _ _ => rfl) (fun _ _ => rfl) (fun k _ => by show (0 : Int) ≤ 0; omega) (fun k _ => by show (0 : Int) ≤ k; omega) (fun k hk y hy => ?_) (fun k hk y hy => ?_) (fun k _ => ⟨by show 1 ≤ 22; decide, by show 1 ≤ 22; decide, by show 0 ≤ 2; decide⟩) (rowPs_nd _) (rowPs_st _) (fun i j hi hj hne => ?_) (fun x hx => ?_) (fun _ => ⟨id, fun t ht => ?_⟩) (fun _ k hk => rowPs_mem.mpr ⟨k, hk, rfl⟩) (fun h => absurd h (by decide))
  · have hy : y = nmS (k + 1) := List.mem_singleton.mp hy
    rw [hy]
    exact List.mem_map.mpr ⟨k + 1, List.mem_range.mpr (by omega), rfl⟩
  · have hy : y = nmS k := List.mem_singleton.mp hy
    rw [hy]
    exact List.mem_map.mpr ⟨k, List.mem_range.mpr (by omega), rfl⟩
  · rw [tied12 (mk := mk1) (nx := fun k => k + 1) (by omega) (fun k hk => by show k + 1 ≤ many; omega) (fun _ => rfl) hi hj hne, rowPs_mem]
    constructor
    · intro e
      have e : j = i + 1 := e
      subst e
      exact ⟨i, hj, Prod.ext rfl (by show ((i + 1 : Nat) : Int) + 1 = _; omega)⟩
    · rintro ⟨k, hk, e⟩
      have := Prod.mk.inj e
      show j = i + 1
      omega
  · obtain ⟨k, hk, rfl⟩ := rowPs_mem.mp hx
    exact ⟨k, k + 1, by omega, hk, by omega, Prod.ext rfl (by show (k : Int) + 2 = ((k + 1 : Nat) : Int) + 1; omega)⟩
  · obtain ⟨k, hk, rfl⟩ := rowPs_mem.mp ht
    show (k : Int) + 1 < (k : Int) + 2
    omega
def rndPs (many : Nat) : List (Int × Int) := (List.range many).map fun (i : Nat) => ((i : Int) + 1, (((i + 1) % many : Nat) : Int) + 1)
theorem rndPs_mem {many : Nat} {x : Int × Int} : x ∈ rndPs many ↔ ∃ i : Nat, i < many ∧ x = ((i : Int) + 1, (((i + 1) % many : Nat) : Int) + 1) := by
  unfold rndPs
  rw [List.mem_map]
  constructor
  · rintro ⟨k, hk, rfl⟩
    exact ⟨k, List.mem_range.mp hk, rfl⟩
  · rintro ⟨k, hk, rfl⟩
    exact ⟨k, List.mem_range.mpr hk, rfl⟩
theorem rndPs_nd (many : Nat) : (rndPs many).Nodup := by
  unfold rndPs
  rw [List.nodup_iff_pairwise_ne, List.pairwise_map]
  exact (List.nodup_iff_pairwise_ne.mp List.nodup_range).imp fun h e => h (by have := (Prod.mk.inj e).1; omega)
theorem sortT_mem {l : List (Int × Int)} {x : Int × Int} : x ∈ l.mergeSort leT ↔ x ∈ l := (List.mergeSort_perm l leT).mem_iff
theorem made2 {many : Nat} (h2 : 2 ≤ many) (hm : many ≤ 90) : Made 2 many ((List.range many).map (mk2 many)) ((rndPs many).mergeSort leT) := by
  have hmod : ∀ k, (k + 1) % many < many := fun k => Nat.mod_lt _ (by omega)
  have hne : ∀ k, k < many → k ≠ (k + 1) % many := fun k hk => by
    by_cases c : k + 1 = many
    · rw [c, Nat.mod_self]; omega
    · rw [Nat.mod_eq_of_lt (by omega)]; omega
  refine Made.of (zs := (List.range (many + 1)).map nmS) (by rw [List.length_map, List.length_range]; omega) (by omega) (fun _ _ => rfl) (fun _ _ => rfl) (fun k _ => by show (0 : Int) ≤ 0; omega) (fun k _ => by show (0 : Int) ≤ k; omega) (fun k hk y hy => ?_) (fun k hk y hy => ?_) (fun k _ => ⟨by show 1 ≤ 22; decide, by show 1 ≤ 22; decide, by show 0 ≤ 2; decide⟩) ((List.mergeSort_perm _ _).nodup_iff.mpr (rndPs_nd _)) (List.pairwise_mergeSort leT_trans leT_total _) (fun i j hi hj hij => ?_) (fun x hx => ?_) (fun h => absurd rfl h) (fun h => absurd h (by decide)) (fun _ x => by rw [sortT_mem, rndPs_mem])
  · have hy : y = nmS ((k + 1) % many) := List.mem_singleton.mp hy
    rw [hy]
    exact List.mem_map.mpr ⟨_, List.mem_range.mpr (by have := hmod k; omega), rfl⟩
  · have hy : y = nmS k := List.mem_singleton.mp hy
    rw [hy]
    exact List.mem_map.mpr ⟨k, List.mem_range.mpr (by omega), rfl⟩
  · rw [tied12 (mk := mk2 many) (nx := fun k => (k + 1) % many) (by omega) (fun k hk => Nat.le_of_lt (hmod k)) (fun _ => rfl) hi hj hij, sortT_mem, rndPs_mem]
    constructor
    · intro e
      have e : j = (i + 1) % many := e
      exact ⟨i, hi, by rw [e]⟩
    · rintro ⟨k, hk, e⟩
      have := Prod.mk.inj e
      have e2 : i = k := by omega
      subst e2
      show j = (i + 1) % many
      omega
  · obtain ⟨k, hk, rfl⟩ := rndPs_mem.mp (sortT_mem.mp hx)
    exact ⟨k, (k + 1) % many, hk, hmod k, hne k hk, rfl⟩

/-! each tenth writes, the others read -/
def kB : Str := "b"
def wrt (s : Int) : Int := (s + 9) / 10 * 10 - 9
def mk3 (st : Nat → Int) (k : Nat) : Dl := if k % 10 = 0 then ⟨k + 1, k, k + 1, [], [(kA, kB)], [kA]⟩ else ⟨k + 1, st k, k + 1, [kA], [], []⟩
def rd3 (st : Nat → Int) (many k : Nat) : List (Int × Int) := if k % 10 = 0 then [] else (if 0 < wrt (st k) then [(wrt (st k), (k : Int) + 1)] else []) ++ (if wrt (st k) + 10 ≤ many then [((k : Int) + 1, wrt (st k) + 10)] else [])
def ps3 (st : Nat → Int) (many i : Nat) : List (Int × Int) := ((List.range ((many - 1) / 10)).map fun j : Nat => (10 * (j : Int) + 1, 10 * (j : Int) + 11)) ++ (List.range i).flatMap (rd3 st many)
theorem rd3_mem {st : Nat → Int} {many k : Nat} {x : Int × Int} : x ∈ rd3 st many k ↔ k % 10 ≠ 0 ∧ ((0 < wrt (st k) ∧ x = (wrt (st k), (k : Int) + 1)) ∨ (wrt (st k) + 10 ≤ many ∧ x = ((k : Int) + 1, wrt (st k) + 10))) := by
  unfold rd3
  by_cases c : k % 10 = 0
  · rw [if_pos c]
    simp [c]
  · rw [if_neg c, List.mem_append]
    by_cases c1 : 0 < wrt (st k) <;> by_cases c2 : wrt (st k) + 10 ≤ many <;> simp [c, c1, c2]
theorem ps3_mem {st : Nat → Int} {many i : Nat} {x : Int × Int} : x ∈ ps3 st many i ↔ (∃ j : Nat, 10 * j + 10 < many ∧ x = (10 * (j : Int) + 1, 10 * (j : Int) + 11)) ∨ ∃ k, k < i ∧ x ∈ rd3 st many k := by
  unfold ps3
  rw [List.mem_append, List.mem_map, List.mem_flatMap]
  constructor
  · rintro (⟨j, hj, rfl⟩ | ⟨k, hk, hx⟩)
    · exact .inl ⟨j, by have := List.mem_range.mp hj; omega, rfl⟩
    · exact .inr ⟨k, List.mem_range.mp hk, hx⟩
  · rintro (⟨j, hj, rfl⟩ | ⟨k, hk, hx⟩)
    · exact .inl ⟨j, List.mem_range.mpr (by omega), rfl⟩
    · exact .inr ⟨k, List.mem_range.mpr hk, hx⟩
theorem ps3_succ {st : Nat → Int} {many i : Nat} : ps3 st many (i + 1) = ps3 st many i ++ rd3 st many i := by
  unfold ps3
  rw [List.range_succ, List.flatMap_append, List.flatMap_singleton, List.append_assoc]
theorem ps3_nd {st : Nat → Int} {many : Nat} : ∀ i, (ps3 st many i).Nodup
  | 0 => by
    unfold ps3
    rw [List.range_zero, List.flatMap_nil, List.append_nil, List.nodup_iff_pairwise_ne, List.pairwise_map]
    exact (List.nodup_iff_pairwise_ne.mp List.nodup_range).imp fun h e => h (by have := (Prod.mk.inj e).1; omega)
  | i + 1 => by
    rw [ps3_succ]
    refine List.nodup_append.mpr ⟨ps3_nd i, ?_, fun x hx y hy e => ?_⟩
    · unfold rd3
      by_cases c : i % 10 = 0
      · rw [if_pos c]; simp
      · rw [if_neg c]
        by_cases c1 : 0 < wrt (st i) <;> by_cases c2 : wrt (st i) + 10 ≤ many <;> simp [c1, c2]
        unfold wrt
        omega
    · subst e
      rw [ps3_mem] at hx
      obtain ⟨hi, hy⟩ := rd3_mem.mp hy
      unfold wrt at hy
      rcases hx with ⟨j, hj, rfl⟩ | ⟨k, hk, hx⟩
      · rcases hy with ⟨_, e⟩ | ⟨_, e⟩ <;> (have := Prod.mk.inj e; omega)
      · obtain ⟨hk2, hx⟩ := rd3_mem.mp hx
        unfold wrt at hx
        rcases hx with ⟨_, rfl⟩ | ⟨_, rfl⟩
        · rcases hy with ⟨_, e⟩ | ⟨_, e⟩ <;> (have := Prod.mk.inj e; omega)
        · rcases hy with ⟨_, e⟩ | ⟨_, e⟩ <;> (have := Prod.mk.inj e; omega)
theorem made3 {many : Nat} (hm : many ≤ 100) {st : Nat → Int} (hs : ∀ k, k < many → 0 ≤ st k ∧ st k ≤ k) : Made 3 many ((List.range many).map (mk3 st)) ((ps3 st many many).mergeSort leT) := by
  have nu : ∀ k, (mk3 st k).num = (k : Int) + 1 := fun k => by unfold mk3; split <;> rfl
  have pl : ∀ k, (mk3 st k).place = (k : Int) + 1 := fun k => by unfold mk3; split <;> rfl
  have sw : ∀ k, k % 10 = 0 → (mk3 st k).stand = k := fun k h => by unfold mk3; rw [if_pos h]
  have sr : ∀ k, k % 10 ≠ 0 → (mk3 st k).stand = st k := fun k h => by unfold mk3; rw [if_neg h]
  have asks : ∀ k, asksB (mk3 st k) kA = true := fun k => by
    unfold mk3
    split
    · unfold asksB
      have h1 : ¬ sg kA < sg kA := by decide
      have h2 : sg kA < sg kB := by decide
      rw [List.any_cons]
      show (_ || ((!decide (sg kA < sg kA) && decide (sg kA < sg kB)) || _)) = true
      rw [decide_eq_false h1, decide_eq_true h2]
      simp
    · unfold asksB
      simp
  have wr : ∀ k key, key ∈ (mk3 st k).writes ↔ k % 10 = 0 ∧ key = kA := fun k key => by
    unfold mk3
    split
    · next h => simp [h]
    · next h => simp [h]
  have rr : ∀ k key, key ∈ (mk3 st k).reads → key = kA := fun k key h => by
    unfold mk3 at h
    split at h
    · cases h
    · exact List.mem_singleton.mp h
  have all : ∀ {P : Int → Int → Prop} {i j : Nat}, (∀ r ∈ (List.range many).map (mk3 st), kA ∈ r.writes → r.num ≠ (mk3 st i).num → r.num ≠ (mk3 st j).num → ¬ P r.num r.place) ↔ ∀ r : Nat, r < many → r % 10 = 0 → r ≠ i → r ≠ j → ¬ P ((r : Int) + 1) ((r : Int) + 1) := fun {P i j} => by
    constructor
    · intro h r hr h0 h1 h2
      have := h (mk3 st r) (List.mem_map.mpr ⟨r, List.mem_range.mpr hr, rfl⟩) ((wr _ _).mpr ⟨h0, rfl⟩) (by rw [nu, nu]; omega) (by rw [nu, nu]; omega)
      rw [nu, pl] at this
      exact this
    · intro h r hr hw h1 h2
      obtain ⟨k, hk, rfl⟩ := List.mem_map.mp hr
      rw [nu, nu] at h1 h2
      rw [nu, pl]
      exact h k (List.mem_range.mp hk) ((wr _ _).mp hw).1 (by omega) (by omega)
  refine Made.of (zs := [kA]) (by simp) hm (fun k _ => nu k) (fun k _ => pl k) (fun k hk => ?_) (fun k hk => ?_) (fun k _ y hy => List.mem_singleton.mpr (rr k y hy)) (fun k _ y hy => List.mem_singleton.mpr ((wr k y).mp hy).2) (fun k _ => ?_) ((List.mergeSort_perm _ _).nodup_iff.mpr (ps3_nd _)) (List.pairwise_mergeSort leT_trans leT_total _) (fun i j hi hj hij => ?_) (fun x hx => ?_) (fun _ => ⟨fun n => if (n - 1) % 10 = 0 then 2 * n else 2 * wrt (st (n - 1).toNat) + 1, fun t ht => ?_⟩) (fun h => absurd h (by decide)) (fun h => absurd h (by decide))
  · by_cases c : k % 10 = 0
    · rw [sw k c]; omega
    · rw [sr k c]; exact (hs k hk).1
  · by_cases c : k % 10 = 0
    · rw [sw k c]; omega
    · rw [sr k c]; exact (hs k hk).2
  · unfold mk3
    split <;> exact ⟨by simp, by simp, by simp⟩
  · rw [sortT_mem, ps3_mem]
    obtain ⟨hi0, hi1⟩ := hs i hi
    obtain ⟨hj0, hj1⟩ := hs j hj
    have key : (∃ key, tiedB (mk3 st i) (mk3 st j) key ((List.range many).map (mk3 st)) = true) ↔ tiedB (mk3 st i) (mk3 st j) kA ((List.range many).map (mk3 st)) = true := by
      constructor
      · rintro ⟨key, h⟩
        have hk : key = kA := by
          rw [tied_prop] at h
          rcases h with ⟨h1, _⟩ | ⟨h1, _⟩ | ⟨h1, _⟩
          · exact ((wr _ _).mp h1).2
          · exact ((wr _ _).mp h1).2
          · exact ((wr _ _).mp h1).2
        rw [← hk]
        rw [← hk] at *
        exact h
      · exact fun h => ⟨_, h⟩
    rw [key, tied_prop, all (P := fun _ p => (mk3 st i).place < p ∧ p < (mk3 st j).place), all (P := fun _ p => (mk3 st i).place < p ∧ p ≤ (mk3 st j).stand), all (P := fun _ p => (mk3 st i).stand < p ∧ p < (mk3 st j).place), wr, wr, asks, asks, pl, pl]
    constructor
    · rintro (⟨⟨h1, _⟩, ⟨h2, _⟩, h3, h4⟩ | ⟨⟨h1, _⟩, _, h3, h4⟩ | ⟨⟨h1, _⟩, _, h3, h4⟩)
      · have := h4 (i + 10)
        exact .inl ⟨i / 10, by omega, Prod.ext (by show (i : Int) + 1 = _; omega) (by show (j : Int) + 1 = _; omega)⟩
      · by_cases c : j % 10 = 0
        · rw [sw j c] at h3 h4
          have := h4 (i + 10)
          exact .inl ⟨i / 10, by omega, Prod.ext (by show (i : Int) + 1 = _; omega) (by show (j : Int) + 1 = _; omega)⟩
        · rw [sr j c] at h3 h4
          have := h4 (i + 10)
          refine .inr ⟨j, hj, rd3_mem.mpr ⟨c, .inl ⟨?_, Prod.ext ?_ rfl⟩⟩⟩
          · unfold wrt; omega
          · show (i : Int) + 1 = wrt (st j)
            unfold wrt
            omega
      · by_cases c : i % 10 = 0
        · rw [sw i c] at h3 h4
          have := h4 (i + 10)
          exact .inl ⟨i / 10, by omega, Prod.ext (by show (i : Int) + 1 = _; omega) (by show (j : Int) + 1 = _; omega)⟩
        · rw [sr i c] at h3 h4
          have := h4 ((st i + 9) / 10 * 10).toNat
          refine .inr ⟨i, hi, rd3_mem.mpr ⟨c, .inr ⟨?_, Prod.ext rfl ?_⟩⟩⟩
          · unfold wrt; omega
          · show (j : Int) + 1 = wrt (st i) + 10
            unfold wrt
            omega
    · rintro (⟨k, hk, e⟩ | ⟨k, hk, hx⟩)
      · have := Prod.mk.inj e
        exact .inl ⟨⟨by omega, rfl⟩, ⟨by omega, rfl⟩, by omega, fun r _ h0 _ _ => by omega⟩
      · obtain ⟨hk0, hx⟩ := rd3_mem.mp hx
        unfold wrt at hx
        rcases hx with ⟨h1, e⟩ | ⟨h1, e⟩
        · have e2 := Prod.mk.inj e
          have e3 : j = k := by omega
          subst e3
          rw [sr j hk0]
          exact .inr (.inl ⟨⟨by omega, rfl⟩, rfl, by omega, fun r _ h0 _ _ => by omega⟩)
        · have e2 := Prod.mk.inj e
          have e3 : i = k := by omega
          subst e3
          rw [sr i hk0]
          exact .inr (.inr ⟨⟨by omega, rfl⟩, rfl, by omega, fun r _ h0 _ _ => by omega⟩)
  · rcases ps3_mem.mp (sortT_mem.mp hx) with ⟨j, hj, rfl⟩ | ⟨k, hk, hx⟩
    · exact ⟨10 * j, 10 * j + 10, by omega, by omega, by omega, Prod.ext (by show 10 * (j : Int) + 1 = ((10 * j : Nat) : Int) + 1; omega) (by show 10 * (j : Int) + 11 = ((10 * j + 10 : Nat) : Int) + 1; omega)⟩
    · obtain ⟨hk0, hx⟩ := rd3_mem.mp hx
      obtain ⟨h0, h1⟩ := hs k hk
      unfold wrt at hx
      rcases hx with ⟨h2, rfl⟩ | ⟨h2, rfl⟩
      · exact ⟨((st k + 9) / 10 * 10 - 10).toNat, k, by omega, hk, by omega, Prod.ext (by show (st k + 9) / 10 * 10 - 9 = _; omega) rfl⟩
      · exact ⟨k, ((st k + 9) / 10 * 10).toNat, hk, by omega, by omega, Prod.ext rfl (by show (st k + 9) / 10 * 10 - 9 + 10 = _; omega)⟩
  · rcases ps3_mem.mp (sortT_mem.mp ht) with ⟨j, hj, rfl⟩ | ⟨k, hk, hx⟩
    · show (if (10 * (j : Int) + 1 - 1) % 10 = 0 then _ else _) < (if (10 * (j : Int) + 11 - 1) % 10 = 0 then _ else _)
      rw [if_pos (by omega), if_pos (by omega)]
      omega
    · obtain ⟨hk0, hx⟩ := rd3_mem.mp hx
      have e1 : ((k : Int) + 1 - 1).toNat = k := by omega
      rcases hx with ⟨h2, rfl⟩ | ⟨h2, rfl⟩
      · show (if (wrt (st k) - 1) % 10 = 0 then _ else _) < (if ((k : Int) + 1 - 1) % 10 = 0 then _ else _)
        rw [if_pos (by unfold wrt; omega), if_neg (by omega), e1]
        omega
      · show (if ((k : Int) + 1 - 1) % 10 = 0 then _ else _) < (if (wrt (st k) + 10 - 1) % 10 = 0 then _ else _)
        rw [if_neg (by omega), if_pos (by unfold wrt; omega), e1]
        omega
/-! orders and rings of these -/
theorem rank_ord {ts : List (Int × Int)} {pl rk : Int → Int} (hr : ∀ t ∈ ts, rk t.1 < rk t.2) : ∀ {left : List Int} {o : Option (List Int)}, Ord ts pl left o → o ≠ none := by
  intro left o h
  induction h with
  | done => simp
  | @stuck left hne hs =>
    exfalso
    have : ∀ n : Nat, ∀ l : List Int, l.length = n → l ≠ [] → ∃ x ∈ l, ∀ y ∈ l, rk x ≤ rk y := by
      intro n
      induction n with
      | zero => intro l hl hne; exact absurd (List.length_eq_zero_iff.mp hl) hne
      | succ n ih =>
        intro l hl hne
        cases l with
        | nil => exact absurd rfl hne
        | cons a l =>
          by_cases c : l = []
          · subst c
            exact ⟨a, List.mem_cons_self, fun y hy => by rw [List.mem_singleton.mp hy]; exact Int.le_refl _⟩
          · obtain ⟨x, hx, hm⟩ := ih l (by simpa using hl) c
            by_cases c2 : rk a ≤ rk x
            · exact ⟨a, List.mem_cons_self, fun y hy => (List.mem_cons.mp hy).elim (fun z => by rw [z]; exact Int.le_refl _) fun z => Int.le_trans c2 (hm y z)⟩
            · exact ⟨x, List.mem_cons_of_mem _ hx, fun y hy => (List.mem_cons.mp hy).elim (fun z => by rw [z]; omega) (hm y)⟩
    obtain ⟨x, hx, hm⟩ := this _ left rfl hne
    refine hs x hx fun t ht e hy => ?_
    have h1 := hr t ht
    have h2 := hm t.1 hy
    rw [e] at h1
    omega
  | step _ _ ih =>
    intro e
    exact ih (Option.map_eq_none_iff.mp e)
theorem Made.ord2 {many : Nat} {rows : List Dl} {ps : List (Int × Int)} (h : Made 2 many rows ps) (h2 : 0 < many) : Ord ps (plOf rows) (rows.map (·.num)) none := by
  have mem : ∀ x, x ∈ rows.map (·.num) ↔ ∃ k : Nat, k < many ∧ x = (k : Int) + 1 := fun x => by
    rw [h.nums.mem_iff, List.mem_map]
    exact ⟨fun ⟨k, hk, e⟩ => ⟨k, List.mem_range.mp hk, e.symm⟩, fun ⟨k, hk, e⟩ => ⟨k, List.mem_range.mpr hk, e.symm⟩⟩
  refine .stuck (fun e => ?_) fun x hx hn => ?_
  · have := (mem 1).mpr ⟨0, h2, rfl⟩
    rw [e] at this
    cases this
  · obtain ⟨k, hk, rfl⟩ := (mem x).mp hx
    by_cases c : k = 0
    · subst c
      exact hn (((many - 1 : Nat) : Int) + 1, (((many - 1 + 1) % many : Nat) : Int) + 1) ((h.rnd rfl _).mpr ⟨many - 1, by omega, rfl⟩) (by rw [show many - 1 + 1 = many by omega, Nat.mod_self]) ((mem _).mpr ⟨many - 1, by omega, rfl⟩)
    · exact hn (((k - 1 : Nat) : Int) + 1, (((k - 1 + 1) % many : Nat) : Int) + 1) ((h.rnd rfl _).mpr ⟨k - 1, by omega, rfl⟩) (by rw [show k - 1 + 1 = k by omega, Nat.mod_eq_of_lt hk]) ((mem _).mpr ⟨k - 1, by omega, rfl⟩)
/-- a ring of these has all of them, one behind the other -/
theorem Made.ring2 {many : Nat} {rows : List Dl} {ps : List (Int × Int)} (h : Made 2 many rows ps) (h2 : 0 < many) {ns : List Int} (hr : IsRing ps ns) : ns.length = many ∧ ∀ (i : Nat) (x : Int), ns[i]? = some x → ns[(i + 1) % many]? = some (x % (many : Int) + 1) := by
  have hpos : 0 < ns.length := List.length_pos_iff.mpr hr.ne
  have nx : ∀ i x y, i < ns.length → ns[i]? = some x → ns[(i + 1) % ns.length]? = some y → ∃ k : Nat, k < many ∧ x = (k : Int) + 1 ∧ y = (((k + 1) % many : Nat) : Int) + 1 := fun i x y hi hx hy => by
    obtain ⟨k, hk, e⟩ := (h.rnd rfl _).mp (hr.lk i x y hi hx hy)
    exact ⟨k, hk, (Prod.mk.inj e).1, (Prod.mk.inj e).2⟩
  obtain ⟨x0, hx0⟩ : ∃ x, ns[0]? = some x := ⟨_, List.getElem?_eq_getElem hpos⟩
  obtain ⟨y0, hy0⟩ : ∃ y, ns[(0 + 1) % ns.length]? = some y := ⟨_, List.getElem?_eq_getElem (Nat.mod_lt _ hpos)⟩
  obtain ⟨k0, hk0, e0, _⟩ := nx 0 x0 y0 hpos hx0 hy0
  have at_ : ∀ i, i < ns.length → ns[i]? = some ((((k0 + i) % many : Nat) : Int) + 1) := by
    intro i
    induction i with
    | zero =>
      intro _
      rw [hx0, e0, Nat.add_zero, Nat.mod_eq_of_lt hk0]
    | succ i ih =>
      intro hi
      have h1 := ih (by omega)
      obtain ⟨y, hy⟩ : ∃ y, ns[i + 1]? = some y := ⟨_, List.getElem?_eq_getElem hi⟩
      obtain ⟨k, hk, e1, e2⟩ := nx i _ y (by omega) h1 (by rw [Nat.mod_eq_of_lt hi]; exact hy)
      have e3 : k = (k0 + i) % many := by omega
      rw [hy, e2, e3]
      congr 2
      rw [Nat.mod_add_mod, Nat.add_assoc]
  have hle : ns.length ≤ many := by
    by_cases c : ns.length ≤ many
    · exact c
    exfalso
    have a1 := at_ 0 hpos
    have a2 := at_ many (by omega)
    rw [show (k0 + many) % many = (k0 + 0) % many by rw [Nat.add_mod_right]; rfl] at a2
    have := (List.getElem?_inj hpos hr.nd).mp (a1.trans a2.symm)
    omega
  have hlen : ns.length = many := by
    obtain ⟨k, hk, e1, e2⟩ := nx (ns.length - 1) _ x0 (by omega) (at_ (ns.length - 1) (by omega)) (by rw [show ns.length - 1 + 1 = ns.length by omega, Nat.mod_self]; exact hx0)
    have e3 : k = (k0 + (ns.length - 1)) % many := by omega
    have e4 : k0 = (k + 1) % many := by omega
    rw [e3, Nat.mod_add_mod, show k0 + (ns.length - 1) + 1 = k0 + ns.length by omega] at e4
    by_cases c : k0 + ns.length < many
    · rw [Nat.mod_eq_of_lt c] at e4; omega
    · rw [Nat.mod_eq_sub_mod (by omega)] at e4
      by_cases c2 : k0 + ns.length - many < many
      · rw [Nat.mod_eq_of_lt c2] at e4; omega
      · omega
  refine ⟨hlen, fun i x hx => ?_⟩
  have hi : i < ns.length := (List.getElem?_eq_some_iff.mp hx).1
  obtain ⟨y, hy⟩ : ∃ y, ns[(i + 1) % ns.length]? = some y := ⟨_, List.getElem?_eq_getElem (Nat.mod_lt _ hpos)⟩
  obtain ⟨k, hk, e1, e2⟩ := nx i x y hi hx hy
  rw [hlen] at hy
  rw [hy, e2, e1]
  congr 1
/-- an order along a row is the row -/
theorem Made.ord1 {pick : Int} {many : Nat} {rows : List Dl} {ps : List (Int × Int)} (h : Made pick many rows ps) (hp : pick < 2) {l : List Int} (ho : Ord ps (plOf rows) (rows.map (·.num)) (some l)) : l = (List.range many).map fun k : Nat => (k : Int) + 1 := by
  obtain ⟨zs, hz, ok⟩ := h.ok
  obtain ⟨hpm, hf⟩ := ho.good ok.nn
  have pm : l.Perm ((List.range many).map fun k : Nat => (k : Int) + 1) := hpm.trans h.nums
  have lnd : l.Nodup := hpm.nodup_iff.mpr ok.nn
  have step : ∀ k : Nat, k + 1 < many → l.idxOf ((k : Int) + 1) < l.idxOf ((k : Int) + 2) := fun k hk => hf _ _ (h.row hp k hk) (tie_in ok h.ties (h.row hp k hk)).1 (tie_in ok h.ties (h.row hp k hk)).2
  have up : ∀ d k : Nat, k + d + 1 < many → l.idxOf ((k : Int) + 1) < l.idxOf (((k + d + 1 : Nat) : Int) + 1) := by
    intro d
    induction d with
    | zero => intro k hk; have := step k hk; rw [show (((k + 0 + 1 : Nat) : Int) + 1) = (k : Int) + 2 by omega]; exact this
    | succ d ih =>
      intro k hk
      have h1 := ih k (by omega)
      have h2 := step (k + d + 1) (by omega)
      rw [show (((k + d + 1 : Nat) : Int) + 2) = ((k + (d + 1) + 1 : Nat) : Int) + 1 by omega] at h2
      omega
  have hs : l.Pairwise fun x y => l.idxOf x < l.idxOf y := idx_lt lnd
  have hs2 : ((List.range many).map fun k : Nat => (k : Int) + 1).Pairwise fun x y => l.idxOf x < l.idxOf y := by
    rw [List.pairwise_map]
    refine List.pairwise_lt_range.imp_of_mem fun {a b} ha hb hab => ?_
    have hb := List.mem_range.mp hb
    have := up (b - a - 1) a (by omega)
    rw [show a + (b - a - 1) + 1 = b by omega] at this
    exact this
  exact pm.eq_of_pairwise (fun a b _ _ h3 h4 => by omega) hs hs2

theorem modNat (i many : Nat) : ((i : Int) + 1) % (many : Nat) = (((i + 1) % many : Nat) : Int) := by
  first | (rw [Int.natCast_emod]; rfl) | (rw [Int.ofNat_emod]; rfl) | (rw [Int.natCast_mod]; rfl)
theorem abc_at {i : Nat} (h : i < 26) : (sg "abcdefghijklmnopqrstuvwxyz")[i]? = some (97 + i) := by
  have : ∀ j : Fin 26, (sg "abcdefghijklmnopqrstuvwxyz")[j.val]? = some (97 + j.val) := by decide +kernel
  exact this ⟨i, h⟩
def φ_name13 : Ph := fun B vs L k => ∃ n : Nat, vs = [.int n] ∧ L = [] ∧ k B (.str (nmS n)) []
theorem fn_l_name (T : Tx K mg) (fd : FuncData) (F : FunD K "_law_name" "_law_name" (defArgs s_l_name) (defBody s_l_name) (defScope s_l_name) [] [] (He.ga K "_law_name") fd) : FnOk P w K mg base CX0 1 (He.ga K "_law_name") fd ["k"] (spY φ_name13) := by
  refine fnM F sc_l_name (fun B vs L k h => by obtain ⟨_, rfl, _⟩ := h; rfl) (fun cdv A outer s H vs Q E B L e hz he hr S h => ?_)
  obtain ⟨n, rfl, rfl, k⟩ := h
  refine ⟨_, (pss_cons (ps_set (i := 1) sc_l_name.nd rfl (.inl rfl) pe_str)
      (pss_one (ps_ret (pe_op (op_addU (K := K) rfl) (pe_ix (ix_U (K := K) rfl (hu_of hr)) (pv 1) (pe_op op_modU (pv 0) pe_int) (fun _ _ => rfl)) (pe_ix (ix_U (K := K) rfl (hu_of hr)) (pv 1) (pe_op op_modU (pe_op op_divU (pv 0) pe_int) pe_int) (fun _ _ => rfl)))))), ?_⟩
  walk_at "yn"
  refine y_ixS (lenOk (by decide)) (atI_of (by omega) (by rw [show (((n : Nat) : Int) % 26).toNat = n % 26 by omega]; exact abc_at (Nat.mod_lt _ (by decide)))) ?_
  walk_at "yn"
  refine y_divI (wide_div (by decide) (b := 10) (by decide) (by decide) (by decide)) ?_
  walk_at "yn"
  refine y_ixS (lenOk (by decide)) (atI_of (by omega) (by rw [show (((n : Nat) : Int) / 26 % 26).toNat = n / 26 % 26 by omega]; exact abc_at (Nat.mod_lt _ (by decide)))) ?_
  refine y_addS (lenOk (by rw [len_one, len_one]; decide)) ?_
  exact k _ S
theorem ok_l_name (T : Tx K mg) : Ok P w K mg base 1 "_law_name" ["k"] (spY φ_name13) :=
  Ok.of T.F_l_name T.g_l_name (fun _ _ _ _ _ _ us hl => match us, hl with | [_], _ => rfl) (fn_l_name T)
theorem pr_map {β : Type} {F : V → β → Prop} {acc : List V} {n : Nat} {f : Nat → β} (h : Paired F acc ((List.range n).filterMap fun i => some (f i))) : Paired F acc ((List.range n).map f) := by
  rw [fm_some] at h
  exact h
abbrev MadeR (K : PySem.W.Frag) (pick : Int) (many : Nat) (k : Hp → V → Led → Prop) (B : Hp) (L : Led) : Prop := ∀ p ra pa rows ps B', B' p = some (.tup [.ref ra, .ref pa]) → At (.list rowC) K B' (.ref ra) rows → At (.list (.tup2 .int .int)) K B' (.ref pa) ps → Made pick many rows ps → rows.length = many → ps.length ≤ 10000 → Same B B' → k B' (.ref p) L
theorem rowPs_len (many : Nat) : (rowPs many).length = many - 1 := by unfold rowPs; rw [List.length_map, List.length_range]
def φ_inrow (K : PySem.W.Frag) : Ph := fun B vs L k => ∃ many : Nat, vs = [.int many] ∧ L = [] ∧ many ≤ 90 ∧ 2 ≤ many ∧ MadeR K 0 many k B []
theorem fn_l_in_row (T : Tx K mg) (fd : FuncData) (F : FunD K "_law_in_row" "_law_in_row" (defArgs s_l_in_row) (defBody s_l_in_row) (defScope s_l_in_row) [] [] (He.ga K "_law_in_row") fd) : FnOk P w K mg base CX0 1 (He.ga K "_law_in_row") fd ["many"] (spY (φ_inrow K)) := by
  refine fnM F sc_l_in_row (fun B vs L k h => by obtain ⟨_, rfl, _⟩ := h; rfl) (fun cdv A outer s H vs Q E B L e hz he hr S h => ?_)
  obtain ⟨many, rfl, rfl, hm, hm2, k⟩ := h
  refine ⟨_, (pss_cons (ps_setLc (i := 1) (own := [("k", 2)]) (by rfl) sc_l_in_row.nd rfl rfl (sw_true rfl rfl rfl (by decide +kernel)) (pi_range1 (by rfl) T.n_range (pa_cons (pv 0) pa_nil)) (blkOk_by (own := [("k", 2)]) (N := ["many", "rows", "k"]) (sc := defScope s_l_in_row) (by decide +kernel)) (fun _ _ _ _ _ => (pg_name (i := 2) sc_l_in_row.nd rfl (.inl rfl))) (fun _ _ _ _ _ => pts_nil) (fun _ _ _ _ _ => (pe_tup (pa_cons (pe_op (op_addU (K := K) rfl) (pv 2) pe_int) (pa_cons (pv 2) (pa_cons (pe_op (op_addU (K := K) rfl) (pv 2) pe_int) (pa_cons (pe_lst (pa_cons pe_str pa_nil)) (pa_cons (pe_lst pa_nil) (pa_cons (pe_lst (pa_cons pe_str pa_nil)) pa_nil)))))))))
      (pss_one (ps_ret (pe_tup (pa_cons (pv 1) (pa_cons (pe_lc (own := [("k", 2)]) (by rfl) sc_l_in_row.nd (pi_range2 (by rfl) T.n_range (pa_cons pe_int (pa_cons (pv 0) pa_nil))) (blkOk_by (own := [("k", 2)]) (N := ["many", "rows", "k"]) (sc := defScope s_l_in_row) (by decide +kernel)) (fun _ _ _ _ _ => (pg_name (i := 2) sc_l_in_row.nd rfl (.inl rfl))) (fun _ _ _ _ _ => pts_nil) (fun _ _ _ _ _ => (pe_tup (pa_cons (pv 2) (pa_cons (pe_op (op_addU (K := K) rfl) (pv 2) pe_int) pa_nil))))) pa_nil)))))), ?_⟩
  walk_at "yn"
  walk_at "yn"
  refine y_lcRel (At rowC K) at_up walk_range S (by omega) (fun i => some (mk0 i)) (fun _ _ _ _ _ _ => trivial) (fun i x B1 H1 H1' acc D Kp Kn hi b1 S hy kp kn => ?_) (fun B1 H acc D b1 hD hp S => ?_)
  · obtain ⟨rfl, rfl⟩ := hy
    have e0 : (0 : Int) + (i : Nat) = (i : Nat) := by omega
    dsimp only
    rw [e0]
    walk_at "yn"
    refine y_newI S fun l1 B2 H b2 h1 _ S => ?_
    walk_at "yn"
    refine y_newI S fun l2 B3 H b3 h2 _ S => ?_
    walk_at "yn"
    refine y_newI S fun l3 B4 H b4 h3 _ S => ?_
    walk_at "yn"
    refine y_newI S fun l4 B5 H b5 h4 _ S => ?_
    exact kp _ _ _ _ rfl (by walk_at "up") (.row (sqT h4) (.list (sqL (up_o (by walk_at "up") h1)) (.cons .str .nil)) (.list (sqL (up_o (by walk_at "up") h2)) .nil) (.list (sqL (up_o (by walk_at "up") h3)) (.cons .str .nil))) S
  rw [show ((many : Nat) : Int).toNat = many by omega] at hp
  have hp := pr_map hp
  obtain ⟨B2, b2, hD2, S⟩ := S.frz 0 rfl hD
  try simp only [List.eraseIdx] at S
  have hrows : At (.list rowC) K B2 (.ref D) ((List.range many).map mk0) := .list (sqL hD2) (pr_up at_up b2 hp)
  walk_at "yn"
  refine y_lcRel (At (.tup2 .int .int) K) at_up walk_range S (by omega) (fun i => some ((i : Int) + 1, (i : Int) + 2)) (fun _ _ _ _ _ _ => trivial) (fun i x B3 H1 H1' acc D Kp Kn hi b3 S hy kp kn => ?_) (fun B3 H acc D3 b3 hD3 hp3 S => ?_)
  · obtain ⟨rfl, rfl⟩ := hy
    dsimp only
    rw [show (1 : Int) + (i : Nat) = (i : Int) + 1 by omega]
    walk_at "yn"
    refine y_newI S fun l1 B4 H b4 h1 _ S => ?_
    rw [show (i : Int) + 1 + 1 = (i : Int) + 2 by omega] at h1
    exact kp _ _ _ _ rfl b4 (.tup2 (sqT h1) .int .int) S
  rw [show (((many : Nat) : Int) - 1).toNat = many - 1 by omega] at hp3
  have hp3 := pr_map hp3
  obtain ⟨B4, b4, hD4, S⟩ := S.frz 0 rfl hD3
  try simp only [List.eraseIdx] at S
  walk_at "yn"
  refine y_newI S fun t B5 H b5 ht _ S => ?_
  exact k t D D3 _ (rowPs many) B5 ht (At.up (by walk_at "up") hrows) (.list (sqL (up_o (by walk_at "up") hD4)) (pr_up at_up (by walk_at "up") hp3)) (made0 (by omega)) (by rw [List.length_map, List.length_range]) (by rw [rowPs_len]; omega) (by walk_at "up") _ S
theorem ok_l_in_row (T : Tx K mg) : Ok P w K mg base 1 "_law_in_row" ["many"] (spY (φ_inrow K)) :=
  Ok.of T.F_l_in_row T.g_l_in_row (fun _ _ _ _ _ _ us hl => match us, hl with | [_], _ => rfl) (fn_l_in_row T)
def φ_next13 (K : PySem.W.Frag) : Ph := fun B vs L k => ∃ many : Nat, vs = [.int many] ∧ L = [] ∧ many ≤ 90 ∧ 2 ≤ many ∧ MadeR K 1 many k B []
theorem fn_l_reading_next (T : Tx K mg) (fd : FuncData) (F : FunD K "_law_reading_next" "_law_reading_next" (defArgs s_l_reading_next) (defBody s_l_reading_next) (defScope s_l_reading_next) [] [] (He.ga K "_law_reading_next") fd) : FnOk P w K mg base CX0 2 (He.ga K "_law_reading_next") fd ["many"] (spY (φ_next13 K)) := by
  refine fnM F sc_l_reading_next (fun B vs L k h => by obtain ⟨_, rfl, _⟩ := h; rfl) (fun cdv A outer s H vs Q E B L e hz he hr S h => ?_)
  obtain ⟨many, rfl, rfl, hm, hm2, k⟩ := h
  refine ⟨_, (pss_cons (ps_setLc (i := 1) (own := [("k", 2)]) (by rfl) sc_l_reading_next.nd rfl rfl (sw_true rfl rfl rfl (by decide +kernel)) (pi_range1 (by rfl) T.n_range (pa_cons (pv 0) pa_nil)) (blkOk_by (own := [("k", 2)]) (N := ["many", "rows", "k"]) (sc := defScope s_l_reading_next) (by decide +kernel)) (fun _ _ _ _ _ => (pg_name (i := 2) sc_l_reading_next.nd rfl (.inl rfl))) (fun _ _ _ _ _ => pts_nil) (fun _ _ _ _ _ => (pe_tup (pa_cons (pe_op (op_addU (K := K) rfl) (pv 2) pe_int) (pa_cons pe_int (pa_cons (pe_op (op_addU (K := K) rfl) (pv 2) pe_int) (pa_cons (pe_lst (pa_cons (pe_callO (ok_l_name (K := K) T) hr (by rfl) (pa_cons (pe_op (op_addU (K := K) rfl) (pv 2) pe_int) pa_nil)) pa_nil)) (pa_cons (pe_lst pa_nil) (pa_cons (pe_lst (pa_cons (pe_callO (ok_l_name (K := K) T) hr (by rfl) (pa_cons (pv 2) pa_nil)) pa_nil)) pa_nil)))))))))
      (pss_one (ps_ret (pe_tup (pa_cons (pv 1) (pa_cons (pe_lc (own := [("k", 2)]) (by rfl) sc_l_reading_next.nd (pi_range2 (by rfl) T.n_range (pa_cons pe_int (pa_cons (pv 0) pa_nil))) (blkOk_by (own := [("k", 2)]) (N := ["many", "rows", "k"]) (sc := defScope s_l_reading_next) (by decide +kernel)) (fun _ _ _ _ _ => (pg_name (i := 2) sc_l_reading_next.nd rfl (.inl rfl))) (fun _ _ _ _ _ => pts_nil) (fun _ _ _ _ _ => (pe_tup (pa_cons (pv 2) (pa_cons (pe_op (op_addU (K := K) rfl) (pv 2) pe_int) pa_nil))))) pa_nil)))))), ?_⟩
  walk_at "yn"
  walk_at "yn"
  refine y_lcRel (At rowC K) at_up walk_range S (by omega) (fun i => some (mk1 i)) (fun _ _ _ _ _ _ => trivial) (fun i x B1 H1 H1' acc D Kp Kn hi b1 S hy kp kn => ?_) (fun B1 H acc D b1 hD hp S => ?_)
  · obtain ⟨rfl, rfl⟩ := hy
    have e0 : (0 : Int) + (i : Nat) = (i : Nat) := by omega
    dsimp only
    rw [e0]
    walk_at "yn"
    refine y_sp0 S ⟨i + 1, by rw [show ((i + 1 : Nat) : Int) = (i : Int) + 1 by omega]; rfl, rfl, fun H T => ?_⟩
    replace S := S.back0 T
    clear T
    walk_at "yn"
    refine y_newI S fun l1 B2 H b2 h1 _ S => ?_
    walk_at "yn"
    refine y_newI S fun l2 B3 H b3 h2 _ S => ?_
    walk_at "yn"
    refine y_sp0 S ⟨i, rfl, rfl, fun H T => ?_⟩
    replace S := S.back0 T
    clear T
    walk_at "yn"
    refine y_newI S fun l3 B4 H b4 h3 _ S => ?_
    walk_at "yn"
    refine y_newI S fun l4 B5 H b5 h4 _ S => ?_
    exact kp _ _ _ _ rfl (by walk_at "up") (.row (sqT h4) (.list (sqL (up_o (by walk_at "up") h1)) (.cons .str .nil)) (.list (sqL (up_o (by walk_at "up") h2)) .nil) (.list (sqL (up_o (by walk_at "up") h3)) (.cons .str .nil))) S
  rw [show ((many : Nat) : Int).toNat = many by omega] at hp
  have hp := pr_map hp
  obtain ⟨B2, b2, hD2, S⟩ := S.frz 0 rfl hD
  try simp only [List.eraseIdx] at S
  have hrows : At (.list rowC) K B2 (.ref D) ((List.range many).map mk1) := .list (sqL hD2) (pr_up at_up b2 hp)
  walk_at "yn"
  refine y_lcRel (At (.tup2 .int .int) K) at_up walk_range S (by omega) (fun i => some ((i : Int) + 1, (i : Int) + 2)) (fun _ _ _ _ _ _ => trivial) (fun i x B3 H1 H1' acc D Kp Kn hi b3 S hy kp kn => ?_) (fun B3 H acc D3 b3 hD3 hp3 S => ?_)
  · obtain ⟨rfl, rfl⟩ := hy
    dsimp only
    rw [show (1 : Int) + (i : Nat) = (i : Int) + 1 by omega]
    walk_at "yn"
    refine y_newI S fun l1 B4 H b4 h1 _ S => ?_
    rw [show (i : Int) + 1 + 1 = (i : Int) + 2 by omega] at h1
    exact kp _ _ _ _ rfl b4 (.tup2 (sqT h1) .int .int) S
  rw [show (((many : Nat) : Int) - 1).toNat = many - 1 by omega] at hp3
  have hp3 := pr_map hp3
  obtain ⟨B4, b4, hD4, S⟩ := S.frz 0 rfl hD3
  try simp only [List.eraseIdx] at S
  walk_at "yn"
  refine y_newI S fun t B5 H b5 ht _ S => ?_
  exact k t D D3 _ (rowPs many) B5 ht (At.up (by walk_at "up") hrows) (.list (sqL (up_o (by walk_at "up") hD4)) (pr_up at_up (by walk_at "up") hp3)) (made1 (by omega)) (by rw [List.length_map, List.length_range]) (by rw [rowPs_len]; omega) (by walk_at "up") _ S
theorem ok_l_reading_next (T : Tx K mg) : Ok P w K mg base 2 "_law_reading_next" ["many"] (spY (φ_next13 K)) :=
  Ok.of T.F_l_reading_next T.g_l_reading_next (fun _ _ _ _ _ _ us hl => match us, hl with | [_], _ => rfl) (fn_l_reading_next T)
theorem y_sortPairs {P : Program} {w : World} {e : En} {B H : Hp} {L : Led} {Q : VK} {a : Addr} {xs : List V} {ps : List (Int × Int)} (S : Sy e B H L) (h : SqL K H a xs) (hp : Paired (At (.tup2 .int .int) K B) xs ps) (q : ∀ t B' H', Same B B' → At (.list (.tup2 .int .int)) K B' (.ref t) (ps.mergeSort leT) → Sy e B' H' L → Q (.ref t) H') : rSortW P w K [.ref a] H Q := by
  refine .inl (.inr (.inl (y_sortC (.tup2 .int .int) S h hp (fun z _ w _ => alike_pair _ _ _ _) (.inl fun d hd => ?_) (by decide) fun ys hys => ?_)))
  · obtain ⟨x, _, rfl⟩ := List.mem_map.mp hd
    exact ⟨_, _, rfl⟩
  refine y_newI S fun t B1 H b1 ht _ S => ?_
  exact q t B1 H b1 (.list (sqL ht) (pr_up at_up b1 hys)) S
def φ_round13 (K : PySem.W.Frag) : Ph := fun B vs L k => ∃ many : Nat, vs = [.int many] ∧ L = [] ∧ many ≤ 90 ∧ 2 ≤ many ∧ MadeR K 2 many k B []
theorem fn_l_round (T : Tx K mg) (fd : FuncData) (F : FunD K "_law_round" "_law_round" (defArgs s_l_round) (defBody s_l_round) (defScope s_l_round) [] [] (He.ga K "_law_round") fd) : FnOk P w K mg base CX0 2 (He.ga K "_law_round") fd ["many"] (spY (φ_round13 K)) := by
  refine fnM F sc_l_round (fun B vs L k h => by obtain ⟨_, rfl, _⟩ := h; rfl) (fun cdv A outer s H vs Q E B L e hz he hr S h => ?_)
  obtain ⟨many, rfl, rfl, hm, hm2, k⟩ := h
  refine ⟨_, (pss_cons (ps_setLc (i := 1) (own := [("k", 2)]) (by rfl) sc_l_round.nd rfl rfl (sw_true rfl rfl rfl (by decide +kernel)) (pi_range1 (by rfl) T.n_range (pa_cons (pv 0) pa_nil)) (blkOk_by (own := [("k", 2)]) (N := ["many", "rows", "k"]) (sc := defScope s_l_round) (by decide +kernel)) (fun _ _ _ _ _ => (pg_name (i := 2) sc_l_round.nd rfl (.inl rfl))) (fun _ _ _ _ _ => pts_nil) (fun _ _ _ _ _ => (pe_tup (pa_cons (pe_op (op_addU (K := K) rfl) (pv 2) pe_int) (pa_cons pe_int (pa_cons (pe_op (op_addU (K := K) rfl) (pv 2) pe_int) (pa_cons (pe_lst (pa_cons (pe_callO (ok_l_name (K := K) T) hr (by rfl) (pa_cons (pe_op op_modU (pe_op (op_addU (K := K) rfl) (pv 2) pe_int) (pv 0)) pa_nil)) pa_nil)) (pa_cons (pe_lst pa_nil) (pa_cons (pe_lst (pa_cons (pe_callO (ok_l_name (K := K) T) hr (by rfl) (pa_cons (pv 2) pa_nil)) pa_nil)) pa_nil)))))))))
      (pss_one (ps_ret (pe_tup (pa_cons (pv 1) (pa_cons (pe_callB (call_sortedW (P := P) (w := w) (K := K) rfl rfl rfl rfl hr.units) (by rfl) T.n_sorted (by decide +kernel) (pa_cons (pe_lc (own := [("k", 2)]) (by rfl) sc_l_round.nd (pi_range2 (by rfl) T.n_range (pa_cons pe_int (pa_cons (pe_op (op_addU (K := K) rfl) (pv 0) pe_int) pa_nil))) (blkOk_by (own := [("k", 2)]) (N := ["many", "rows", "k"]) (sc := defScope s_l_round) (by decide +kernel)) (fun _ _ _ _ _ => (pg_name (i := 2) sc_l_round.nd rfl (.inl rfl))) (fun _ _ _ _ _ => pts_nil) (fun _ _ _ _ _ => (pe_tup (pa_cons (pv 2) (pa_cons (pe_op (op_addU (K := K) rfl) (pe_op op_modU (pv 2) (pv 0)) pe_int) pa_nil))))) pa_nil)) pa_nil)))))), ?_⟩
  walk_at "yn"
  walk_at "yn"
  refine y_lcRel (At rowC K) at_up walk_range S (by omega) (fun i => some (mk2 many i)) (fun _ _ _ _ _ _ => trivial) (fun i x B1 H1 H1' acc D Kp Kn hi b1 S hy kp kn => ?_) (fun B1 H acc D b1 hD hp S => ?_)
  · obtain ⟨rfl, rfl⟩ := hy
    have e0 : (0 : Int) + (i : Nat) = (i : Nat) := by omega
    dsimp only
    rw [e0]
    have e1 := modNat i many
    walk_at "yn"
    rw [e1]
    refine y_sp0 S ⟨(i + 1) % many, rfl, rfl, fun H T => ?_⟩
    replace S := S.back0 T
    clear T
    walk_at "yn"
    refine y_newI S fun l1 B2 H b2 h1 _ S => ?_
    walk_at "yn"
    refine y_newI S fun l2 B3 H b3 h2 _ S => ?_
    walk_at "yn"
    refine y_sp0 S ⟨i, rfl, rfl, fun H T => ?_⟩
    replace S := S.back0 T
    clear T
    walk_at "yn"
    refine y_newI S fun l3 B4 H b4 h3 _ S => ?_
    walk_at "yn"
    refine y_newI S fun l4 B5 H b5 h4 _ S => ?_
    exact kp _ _ _ _ rfl (by walk_at "up") (.row (sqT h4) (.list (sqL (up_o (by walk_at "up") h1)) (.cons .str .nil)) (.list (sqL (up_o (by walk_at "up") h2)) .nil) (.list (sqL (up_o (by walk_at "up") h3)) (.cons .str .nil))) S
  rw [show ((many : Nat) : Int).toNat = many by omega] at hp
  have hp := pr_map hp
  obtain ⟨B2, b2, hD2, S⟩ := S.frz 0 rfl hD
  try simp only [List.eraseIdx] at S
  have hrows : At (.list rowC) K B2 (.ref D) ((List.range many).map (mk2 many)) := .list (sqL hD2) (pr_up at_up b2 hp)
  walk_at "yn"
  refine y_lcRel (At (.tup2 .int .int) K) at_up walk_range S (by omega) (fun i => some ((i : Int) + 1, (((i + 1) % many : Nat) : Int) + 1)) (fun _ _ _ _ _ _ => trivial) (fun i x B3 H1 H1' acc D Kp Kn hi b3 S hy kp kn => ?_) (fun B3 H acc D3 b3 hD3 hp3 S => ?_)
  · obtain ⟨rfl, rfl⟩ := hy
    dsimp only
    rw [show (1 : Int) + (i : Nat) = (i : Int) + 1 by omega]
    walk_at "yn"
    refine y_newI S fun l1 B4 H b4 h1 _ S => ?_
    rw [modNat] at h1
    exact kp _ _ _ _ rfl b4 (.tup2 (sqT h1) .int .int) S
  rw [show (((many : Nat) : Int) + 1 - 1).toNat = many by omega] at hp3
  have hp3 := pr_map hp3
  walk_at "yn"
  refine y_sortPairs S (sqL (S.at 0 rfl)) hp3 fun t4 B4 H b4 ht4 S => ?_
  replace S := S.none
  walk_at "yn"
  refine y_newI S fun t B5 H b5 ht _ S => ?_
  exact k t D t4 _ _ B5 ht (At.up (by walk_at "up") hrows) (At.up (by walk_at "up") ht4) (made2 hm2 (by omega)) (by rw [List.length_map, List.length_range]) (by show ((rndPs many).mergeSort leT).length ≤ 10000; rw [List.length_mergeSort]; unfold rndPs; rw [List.length_map, List.length_range]; omega) (by walk_at "up") _ S
theorem ok_l_round (T : Tx K mg) : Ok P w K mg base 2 "_law_round" ["many"] (spY (φ_round13 K)) :=
  Ok.of T.F_l_round T.g_l_round (fun _ _ _ _ _ _ us hl => match us, hl with | [_], _ => rfl) (fn_l_round T)
theorem RgC.ten {many : Nat} (h : 2 ≤ many) (h1 : many ≤ 1000) : RgC 10 (many : Nat) 10 ((many - 1) / 10) := by
  have e : Builtin.Range.rangeSize 10 (many : Nat) 10 = (((many - 1) / 10 : Nat) : Int) := by
    unfold Builtin.Range.rangeSize
    rw [if_pos (show (10 : Int) > 0 by decide)]
    split <;> omega
  refine ⟨by decide, by decide, ?_, e⟩
  unfold Builtin.Range.small
  rw [e]
  rw [if_pos (show (10 : Int) > 0 by decide)]
  unfold Builtin.Range.rangeFitsLong
  simp only [Bool.and_eq_true, Bool.or_eq_true, decide_eq_true_eq, beq_iff_eq]
  omega
def φ_readers (K : PySem.W.Frag) : Ph := fun B vs L k => ∃ (b : Addr) (o : HO) (many n : Nat), vs = [.ref b, .int many] ∧ L = [(b, o)] ∧ Bag (n + 100) o ∧ many ≤ 90 ∧ 2 ≤ many ∧ ∀ o', Bag n o' → MadeR K 3 many k B [(b, o')]
theorem upd_st (st : Nat → Int) (i : Nat) (s : Int) (many : Nat) : (List.range i).map (mk3 fun k => if k = i then s else st k) = (List.range i).map (mk3 st) ∧ ps3 (fun k => if k = i then s else st k) many i = ps3 st many i := by
  have h : ∀ k ∈ List.range i, (if k = i then s else st k) = st k := fun k hk => if_neg (by have := List.mem_range.mp hk; omega)
  constructor
  · refine List.map_congr_left fun k hk => ?_
    unfold mk3
    simp only [h k hk]
  · unfold ps3
    congr 1
    rw [List.flatMap_def, List.flatMap_def]
    congr 1
    refine List.map_congr_left fun k hk => ?_
    unfold rd3
    simp only [h k hk]
theorem fn_l_readers (T : Tx K mg) (fd : FuncData) (F : FunD K "_law_readers" "_law_readers" (defArgs s_l_readers) (defBody s_l_readers) (defScope s_l_readers) [] [] (He.ga K "_law_readers") fd) : FnOk P w K mg base CX0 3 (He.ga K "_law_readers") fd ["well", "many"] (spY (φ_readers K)) := by
  refine fnM F sc_l_readers (fun B vs L k h => by obtain ⟨_, _, _, _, rfl, _⟩ := h; rfl) (fun cdv A outer s H vs Q E B L e hz he hr S h => ?_)
  obtain ⟨bg, o, many, n, rfl, rfl, hb, hm, hm2, k⟩ := h
  refine ⟨_, (pss_cons (ps_set (i := 2) sc_l_readers.nd rfl (.inl rfl) (pe_lst pa_nil))
      (pss_cons (ps_setLc (i := 4) (own := [("k", 3)]) (by rfl) sc_l_readers.nd rfl rfl (sw_true rfl rfl rfl (by decide +kernel)) (pi_range3 (by rfl) T.n_range (pa_cons pe_int (pa_cons (pv 1) (pa_cons pe_int pa_nil)))) (blkOk_by (own := [("k", 3)]) (N := ["well", "many", "rows", "k", "pairs", "stand", "reads", "writer"]) (sc := defScope s_l_readers) (by decide +kernel)) (fun _ _ _ _ _ => (pg_name (i := 3) sc_l_readers.nd rfl (.inl rfl))) (fun _ _ _ _ _ => pts_nil) (fun _ _ _ _ _ => (pe_tup (pa_cons (pe_op op_subU (pv 3) pe_int) (pa_cons (pe_op (op_addU (K := K) rfl) (pv 3) pe_int) pa_nil)))))
      (pss_cons (ps_for PassesOwn.never rfl (pi_range1 (by rfl) T.n_range (pa_cons (pv 1) pa_nil)) (pg_name (i := 3) sc_l_readers.nd rfl (.inl rfl))
      (pss_cons (ps_set (i := 5) sc_l_readers.nd rfl (.inl rfl) (pe_callO (ok_l_draw (K := K) T) hr (by rfl) (pa_cons (pv 0) (pa_cons (pe_op (op_addU (K := K) rfl) (pv 3) pe_int) pa_nil))))
      (pss_cons (ps_set (i := 6) sc_l_readers.nd rfl (.inl rfl) (pe_lst (pa_cons pe_str pa_nil)))
      (pss_one (ps_if (pt_cmpR (op_eqZ (K := K) rfl hr.units) (pe_op op_modU (pv 3) pe_int) pe_int (nomark _))
      (pss_one (ps_expr (pe_bmK (K := K) (id := "list.append") rfl (pe_bm PySem.F.plainAttrs_list PySem.F.slot_list_append PySem.F.type_list_append mt_append (pv 2) (pa_cons (pe_tup (pa_cons (pe_op (op_addU (K := K) rfl) (pv 3) pe_int) (pa_cons (pv 3) (pa_cons (pe_op (op_addU (K := K) rfl) (pv 3) pe_int) (pa_cons (pe_lst pa_nil) (pa_cons (pe_lst (pa_cons (pe_tup (pa_cons pe_str (pa_cons pe_str pa_nil))) pa_nil)) (pa_cons (pv 6) pa_nil))))))) pa_nil)))))
      (pss_cons (ps_expr (pe_bmK (K := K) (id := "list.append") rfl (pe_bm PySem.F.plainAttrs_list PySem.F.slot_list_append PySem.F.type_list_append mt_append (pv 2) (pa_cons (pe_tup (pa_cons (pe_op (op_addU (K := K) rfl) (pv 3) pe_int) (pa_cons (pv 5) (pa_cons (pe_op (op_addU (K := K) rfl) (pv 3) pe_int) (pa_cons (pv 6) (pa_cons (pe_lst pa_nil) (pa_cons (pe_lst pa_nil) pa_nil))))))) pa_nil))))
      (pss_cons (ps_set (i := 7) sc_l_readers.nd rfl (.inl rfl) (pe_op op_subU (pe_op op_mulZ (pe_op op_divU (pe_op (op_addU (K := K) rfl) (pv 5) pe_int) pe_int) pe_int) pe_int))
      (pss_cons (ps_if (pt_cmpR op_gtU (pv 7) pe_int (nomark _))
      (pss_one (ps_expr (pe_bmK (K := K) (id := "list.append") rfl (pe_bm PySem.F.plainAttrs_list PySem.F.slot_list_append PySem.F.type_list_append mt_append (pv 4) (pa_cons (pe_tup (pa_cons (pv 7) (pa_cons (pe_op (op_addU (K := K) rfl) (pv 3) pe_int) pa_nil))) pa_nil)))))
      pss_nil)
      (pss_one (ps_if (pt_cmpR op_leU (pe_op (op_addU (K := K) rfl) (pv 7) pe_int) (pv 1) (nomark _))
      (pss_one (ps_expr (pe_bmK (K := K) (id := "list.append") rfl (pe_bm PySem.F.plainAttrs_list PySem.F.slot_list_append PySem.F.type_list_append mt_append (pv 4) (pa_cons (pe_tup (pa_cons (pe_op (op_addU (K := K) rfl) (pv 3) pe_int) (pa_cons (pe_op (op_addU (K := K) rfl) (pv 7) pe_int) pa_nil))) pa_nil)))))
      pss_nil))))))))))
      (pss_one (ps_ret (pe_tup (pa_cons (pv 2) (pa_cons (pe_callB (call_sortedW (P := P) (w := w) (K := K) rfl rfl rfl rfl hr.units) (by rfl) T.n_sorted (by decide +kernel) (pa_cons (pv 4) pa_nil)) pa_nil)))))))), ?_⟩
  walk_at "yn"
  refine y_newM S fun rl H hrl0 S => ?_
  walk_at "yn"
  refine y_rngK3 (RgC.ten hm2 (by omega)) ?_
  walk_at "yn"
  refine y_lcRel (At (.tup2 .int .int) K) at_up walk_rangeC S (by omega) (fun i => some (10 * (i : Int) + 1, 10 * (i : Int) + 11)) (fun _ _ _ _ _ _ => trivial) (fun i x B1 H1 H1' acc D Kp Kn hi b1 S hy kp kn => ?_) (fun B1 H acc pd b1 hpd0 hp S => ?_)
  · obtain ⟨rfl, rfl⟩ := hy
    dsimp only
    walk_at "yn"
    refine y_newI S fun l1 B4 H b4 h1 _ S => ?_
    rw [show (10 : Int) + (i : Nat) * 10 - 9 = 10 * (i : Int) + 1 by omega, show (10 : Int) + (i : Nat) * 10 + 1 = 10 * (i : Int) + 11 by omega] at h1
    exact kp _ _ _ _ rfl b4 (.tup2 (sqT h1) .int .int) S
  have hp := pr_map hp
  walk_at "yn"
  refine y_forR (fun i σ H => ∃ (B2 : Hp) (o : HO) (rv pv : List V) (st : Nat → Int), (∃ (y3 y5 y6 y7 : Option V), σ = [some (.ref bg), some (.int many), some (.ref rl), y3, some (.ref pd), y5, y6, y7]) ∧ Same B1 B2 ∧ Sy e B2 H [(pd, .lst pv), (rl, .lst rv), (bg, o)] ∧ Bag (n + 95 - i) o ∧ (∀ k, k < i → 0 ≤ st k ∧ st k ≤ k) ∧ Paired (At rowC K B2) rv ((List.range i).map (mk3 st)) ∧ Paired (At (.tup2 .int .int) K B2) pv (ps3 st many i) ∧ pv.length ≤ 10 + 2 * i) ⟨B1, o, [], acc, fun _ => 0, ⟨_, _, _, _, rfl⟩, Same.refl _, S, hb.mono (by omega), fun k hk => absurd hk (by omega), .nil, by unfold ps3; rw [List.range_zero, List.flatMap_nil, List.append_nil]; exact hp, by have := hp.length; rw [List.length_map, List.length_range] at this; omega⟩ ?_ ?_
  · clear S hb hp
    rintro i σ H ti ⟨B2, o, rv, pv, st, ⟨y3, y5, y6, y7, rfl⟩, b2, S, hb, hst, hrv, hpv, hpl⟩
    have hi : i < many := by omega
    have e0 : (0 : Int) + (i : Nat) = (i : Nat) := by omega
    have hrl : rv.length = i := by have := hrv.length; rw [List.length_map, List.length_range] at this; exact this
    rw [e0]
    walk_at "yn"
    refine y_drawN 2 S rfl hb (by omega) (by omega) (by omega) fun s o H s0 s1 hb S => ?_
    try simp only [List.set] at S
    walk_at "yn"
    refine y_newI S fun rd B3 H b3 hrd _ S => ?_
    walk_at "yn"
    refine y_ifS ?_
    walk_at "yn"
    obtain ⟨eq1, eq2⟩ := upd_st st i s many
    obtain ⟨st2, hdef⟩ : ∃ f : Nat → Int, f = fun k => if k = i then s else st k := ⟨_, rfl⟩
    have hst2 : ∀ k, k < i + 1 → 0 ≤ st2 k ∧ st2 k ≤ k := fun k hk => by
      rw [hdef]
      by_cases c : k = i
      · show 0 ≤ (if k = i then s else st k) ∧ (if k = i then s else st k) ≤ k
        rw [if_pos c]; omega
      · show 0 ≤ (if k = i then s else st k) ∧ (if k = i then s else st k) ≤ k
        rw [if_neg c]; exact hst k (by omega)
    have hsi : st2 i = s := by rw [hdef]; exact if_pos rfl
    rw [← hdef] at eq1 eq2
    rw [← eq1] at hrv
    rw [← eq2] at hpv
    refine y_iteI (fun hc => ?_) (fun hc => ?_)
    · have hc : i % 10 = 0 := by omega
      walk_at "yn"
      refine y_newI S fun l1 B4 H b4 h1 _ S => ?_
      walk_at "yn"
      refine y_newI S fun t1 B5 H b5 ht1 _ S => ?_
      walk_at "yn"
      refine y_newI S fun l2 B6 H b6 h2 _ S => ?_
      walk_at "yn"
      refine y_newI S fun t2 B7 H b7 ht2 _ S => ?_
      walk_at "yn"
      refine y_app 1 S rfl (lenLt (by first | omega | (simp <;> omega))) fun H S => ?_
      try simp only [List.set] at S
      walk_at "yn"
      refine ⟨B7, o, _, pv, st2, ⟨_, _, _, _, rfl⟩, by walk_at "up", S, hb.mono (by omega), hst2, ?_, ?_, by omega⟩
      · rw [List.range_succ, List.map_append]
        refine pr_app (pr_up at_up (by walk_at "up") hrv) (.cons ?_ .nil)
        have e1 : mk3 st2 i = ⟨(i : Int) + 1, i, (i : Int) + 1, [], [(kA, kB)], [kA]⟩ := if_pos hc
        rw [e1]
        exact .row (sqT ht2) (.list (sqL (up_o (by walk_at "up") h1)) .nil) (.list (sqL (up_o (by walk_at "up") h2)) (.cons (.tup2 (sqT (up_o (by walk_at "up") ht1)) .str .str) .nil)) (.list (sqL (up_o (by walk_at "up") hrd)) (.cons .str .nil))
      · rw [ps3_succ, show rd3 st2 many i = [] from if_pos hc, List.append_nil]
        exact pr_up at_up (by walk_at "up") hpv
    · have hc : i % 10 ≠ 0 := by omega
      walk_at "yn"
      refine y_newI S fun l1 B4 H b4 h1 _ S => ?_
      walk_at "yn"
      refine y_newI S fun l2 B5 H b5 h2 _ S => ?_
      walk_at "yn"
      refine y_newI S fun t2 B6 H b6 ht2 _ S => ?_
      walk_at "yn"
      refine y_app 1 S rfl (lenLt (by first | omega | (simp <;> omega))) fun H S => ?_
      try simp only [List.set] at S
      walk_at "yn"
      have hrow : At rowC K B6 (.ref t2) (mk3 st2 i) := by
        have e1 : mk3 st2 i = ⟨(i : Int) + 1, s, (i : Int) + 1, [kA], [], []⟩ := by unfold mk3; rw [if_neg hc, hsi]
        rw [e1]
        exact .row (sqT ht2) (.list (sqL (up_o (by walk_at "up") hrd)) (.cons .str .nil)) (.list (sqL (up_o (by walk_at "up") h1)) .nil) (.list (sqL (up_o (by walk_at "up") h2)) .nil)
      have hrv' : Paired (At rowC K B6) (rv ++ [V.ref t2]) ((List.range (i + 1)).map (mk3 st2)) := by
        rw [List.range_succ, List.map_append]
        exact pr_app (pr_up at_up (by walk_at "up") hrv) (.cons hrow .nil)
      have hrd3 : rd3 st2 many i = (if 0 < wrt s then [(wrt s, (i : Int) + 1)] else []) ++ (if wrt s + 10 ≤ many then [((i : Int) + 1, wrt s + 10)] else []) := by unfold rd3; rw [if_neg hc, hsi]
      refine y_divI (wide_div (by decide) (b := 10) (by decide) (by decide) (by decide)) ?_
      walk_at "yn"
      rw [show (s + 9) / 10 * 10 - 9 = wrt s from rfl]
      refine y_cutS (R := fun σ H => ∃ (B7 : Hp) (pv2 : List V), (∃ (y5 y6 : Option V), σ = [some (.ref bg), some (.int many), some (.ref rl), some (.int i), some (.ref pd), y5, y6, some (.int (wrt s))]) ∧ Same B6 B7 ∧ Sy e B7 H [(pd, .lst pv2), (rl, .lst (rv ++ [V.ref t2])), (bg, o)] ∧ Paired (At (.tup2 .int .int) K B7) pv2 (ps3 st2 many i ++ (if 0 < wrt s then [(wrt s, (i : Int) + 1)] else [])) ∧ pv2.length ≤ pv.length + 1) (fun nx' hnx => ?_) (fun σ H hR => ?_)
      · refine y_ifS ?_
        walk_at "yn"
        refine y_ite (fun h0 => ?_) (fun h0 => ?_)
        · walk_at "yn"
          refine y_newI S fun t3 B7 H b7 ht3 _ S => ?_
          walk_at "yn"
          refine y_app 0 S rfl (lenLt (by first | omega | (simp <;> omega))) fun H S => ?_
          try simp only [List.set] at S
          walk_at "yn"
          refine hnx _ _ ⟨B7, _, ⟨_, _, rfl⟩, b7, S, ?_, by simp⟩
          rw [if_pos h0]
          exact pr_app (pr_up at_up (by walk_at "up") hpv) (.cons (.tup2 (sqT ht3) .int .int) .nil)
        · walk_at "yn"
          refine hnx _ _ ⟨B6, _, ⟨_, _, rfl⟩, Same.refl _, S, ?_, by omega⟩
          rw [if_neg h0, List.append_nil]
          exact pr_up at_up (by walk_at "up") hpv
      clear S
      obtain ⟨B7, pv2, ⟨y5, y6, rfl⟩, b7, S, hpv2, hpl2⟩ := hR
      refine y_ifS ?_
      walk_at "yn"
      refine y_ite (fun h0 => ?_) (fun h0 => ?_)
      · walk_at "yn"
        refine y_newI S fun t3 B8 H b8 ht3 _ S => ?_
        walk_at "yn"
        refine y_app 0 S rfl (lenLt (by first | omega | (simp <;> omega))) fun H S => ?_
        try simp only [List.set] at S
        walk_at "yn"
        refine ⟨B8, o, _, _, st2, ⟨_, _, _, _, rfl⟩, by walk_at "up", S, hb.mono (by omega), hst2, pr_up at_up (by walk_at "up") hrv', ?_, by simp; omega⟩
        rw [ps3_succ, hrd3, if_pos h0, ← List.append_assoc]
        exact pr_app (pr_up at_up (by walk_at "up") hpv2) (.cons (.tup2 (sqT ht3) .int .int) .nil)
      · walk_at "yn"
        refine ⟨B7, o, _, _, st2, ⟨_, _, _, _, rfl⟩, by walk_at "up", S, hb.mono (by omega), hst2, pr_up at_up (by walk_at "up") hrv', ?_, by omega⟩
        rw [ps3_succ, hrd3, if_neg h0, List.append_nil]
        exact hpv2
  clear S hb hp
  rintro σ H ⟨B2, o, rv, pv, st, ⟨y3, y5, y6, y7, rfl⟩, b2, S, hb, hst, hrv, hpv, hpl⟩
  rw [show ((many : Nat) : Int).toNat = many by omega] at hst hrv hpv hpl hb
  walk_at "yn"
  refine y_sortPairs S (sqL (S.at 0 rfl)) hpv fun t4 B4 H b4 ht4 S => ?_
  replace S := S.tail
  obtain ⟨B5, b5, hrl5, S⟩ := S.frz 0 rfl hrl0
  try simp only [List.eraseIdx] at S
  walk_at "yn"
  refine y_newI S fun t B6 H b6 ht _ S => ?_
  have hpl' : (ps3 st many many).length = pv.length := hpv.length.symm
  exact k o (hb.mono (by omega)) t rl t4 _ _ B6 ht (.list (sqL (up_o (by walk_at "up") hrl5)) (pr_up at_up (by walk_at "up") hrv)) (At.up (by walk_at "up") ht4) (made3 (by omega) hst) (by rw [List.length_map, List.length_range]) (by rw [List.length_mergeSort]; omega) (by walk_at "up") _ S
theorem ok_l_readers (T : Tx K mg) : Ok P w K mg base 3 "_law_readers" ["well", "many"] (spY (φ_readers K)) :=
  Ok.of T.F_l_readers T.g_l_readers (fun _ _ _ _ _ _ us hl => match us, hl with | [_, _], _ => rfl) (fn_l_readers T)
def φ_mixed (K : PySem.W.Frag) : Ph := fun B vs L k => ∃ (b : Addr) (o : HO) (a : Addr) (rows : List Dl) (n : Nat), vs = [.ref b, .ref a] ∧ L = [(b, o)] ∧ Bag (n + 100) o ∧ At (.list rowC) K B (.ref a) rows ∧ rows.length ≤ 100 ∧
  ∀ p rows' o' B', rows'.Perm rows → At (.list rowC) K B' (.ref p) rows' → Bag n o' → Same B B' → k B' (.ref p) [(b, o')]
theorem fn_l_mixed (T : Tx K mg) (fd : FuncData) (F : FunD K "_law_mixed" "_law_mixed" (defArgs s_l_mixed) (defBody s_l_mixed) (defScope s_l_mixed) [] [] (He.ga K "_law_mixed") fd) : FnOk P w K mg base CX0 3 (He.ga K "_law_mixed") fd ["well", "rows"] (spY (φ_mixed K)) := by
  refine fnM F sc_l_mixed (fun B vs L k h => by obtain ⟨_, _, _, _, _, rfl, _⟩ := h; rfl) (fun cdv A outer s H vs Q E B L e hz he hr S h => ?_)
  obtain ⟨bg, o, a, rows, n, rfl, rfl, hb, hra, hrl, k⟩ := h
  refine ⟨_, (pss_cons (ps_set (i := 2) sc_l_mixed.nd rfl (.inl rfl) (pe_lst pa_nil))
      (pss_cons (ps_for PassesOwn.never rfl (pi_listK (K := K) rfl (pv 1)) (pg_name (i := 3) sc_l_mixed.nd rfl (.inl rfl))
      (pss_one (ps_expr (pe_bmK (K := K) (id := "list.insert") rfl (pe_bm PySem.F.plainAttrs_list PySem.F.slot_list_insert PySem.F.type_list_insert mt_insertU (pv 2) (pa_cons (pe_callO (ok_l_draw (K := K) T) hr (by rfl) (pa_cons (pv 0) (pa_cons (pe_op (op_addU (K := K) rfl) (pe_callB (call_lenU (K := K) rfl) (by rfl) T.n_len (by decide +kernel) (pa_cons (pv 2) pa_nil)) pe_int) pa_nil))) (pa_cons (pv 3) pa_nil)))))))
      (pss_one (ps_ret (pv 2))))), ?_⟩
  walk_at "yn"
  obtain ⟨rv0, hrv0, -⟩ := at_list_ref hra
  refine y_newM S fun f H hf0 S => ?_
  walk_at "yn"
  refine y_forC (e := e) (c := rowC) (fun i σ H => ∃ (o : HO) (vs : List V) (ds : List Dl), (∃ (y3 : Option V), σ = [some (.ref bg), some (.ref a), some (.ref f), y3]) ∧ Sy e B H [(f, .lst vs), (bg, o)] ∧ Bag (n + 100 - i) o ∧ Paired (At rowC K B) vs ds ∧ ds.Perm (rows.take i)) hra ⟨o, [], [], ⟨_, rfl⟩, S, hb, .nil, by simp⟩ (fun i σ H hi ⟨_, _, _, _, S, _⟩ => ⟨B, _, Same.refl _, S⟩) ?_ ?_
  · clear S hb
    rintro i x r σ H hx hxz ⟨o, vs, ds, ⟨y3, rfl⟩, S, hb, hvp, hpm⟩
    have hil : i < rows.length := (List.getElem?_eq_some_iff.mp hx).1
    have htk : rows.take (i + 1) = rows.take i ++ [r] := by rw [List.take_add_one, hx]; rfl
    have hvl : vs.length = ds.length := hvp.length
    have hdl : ds.length ≤ i := by rw [hpm.length_eq, List.length_take]; omega
    walk_at "yn"
    refine y_drawN 1 S rfl hb (by omega) (by omega) (by omega) fun j o H j0 j1 hb S => ?_
    try simp only [List.set] at S
    walk_at "yn"
    refine y_ins 0 S rfl (lenLt (by omega)) (by omega) (by omega) fun H S => ?_
    try simp only [List.set] at S
    refine ⟨o, _, _, ⟨_, rfl⟩, S, hb.mono (by omega), pr_app (pr_app (pr_take j.toNat hvp) (.cons hxz .nil)) (pr_drop j.toNat hvp), ?_⟩
    rw [htk]
    exact (perm_ins ds j.toNat r).trans ((hpm.cons r).trans (List.perm_append_singleton _ _).symm)
  clear S hb
  rintro σ H ⟨o, vs, ds, ⟨y3, rfl⟩, S, hb, hvp, hpm⟩
  rw [List.take_length] at hpm
  obtain ⟨B1, b1, hf1, S⟩ := S.frz 0 rfl hf0
  try simp only [List.eraseIdx] at S
  walk_at "yn"
  exact k _ ds o B1 hpm (.list (sqL hf1) (pr_up at_up b1 hvp)) (hb.mono (by omega)) b1 _ S
theorem ok_l_mixed (T : Tx K mg) : Ok P w K mg base 3 "_law_mixed" ["well", "rows"] (spY (φ_mixed K)) :=
  Ok.of T.F_l_mixed T.g_l_mixed (fun _ _ _ _ _ _ us hl => match us, hl with | [_, _], _ => rfl) (fn_l_mixed T)

theorem atI_lastX {α : Type} (m : List α) (x : α) : atI (m ++ [x]) (-1) = some x := by
  unfold atI ixN
  rw [if_neg (by decide), if_pos (by rw [List.length_append, List.length_singleton]; omega), Option.bind_some, List.length_append, List.length_singleton]
  rw [show ((-1 : Int) + ((m.length + 1 : Nat) : Int)).toNat = m.length by omega]
  exact List.getElem?_concat_length
theorem idx_le {l : List Int} {p : Nat} {x : Int} (h : l[p]? = some x) : l.idxOf x ≤ p := by
  refine Nat.le_of_not_lt fun z => ?_
  obtain ⟨h1, h2⟩ := List.getElem?_eq_some_iff.mp h
  have := List.not_of_lt_findIdx (p := (· == x)) (xs := l) z
  simp [h2] at this
theorem idx_ge {l : List Int} {n : Nat} {x : Int} (hn : n ≤ l.length) (h : ∀ p, p < n → l[p]? ≠ some x) : n ≤ l.idxOf x := by
  refine Nat.le_of_not_lt fun z => ?_
  refine h _ z ?_
  rw [List.getElem?_eq_getElem (by omega), List.getElem_idxOf]
theorem turned_no {ts : List (Int × Int)} {ns l : List Int} {one other : Int} (ht : (one, other) ∈ ts) (h1 : one ∈ l) (h2 : other ∈ l) (hlt : l.idxOf one < l.idxOf other) : isOrdB ts ns ((l.set (l.idxOf one) other).set (l.idxOf other) one) = false := by
  have l1 := List.idxOf_lt_length_of_mem h1
  have l2 := List.idxOf_lt_length_of_mem h2
  have a1 : ((l.set (l.idxOf one) other).set (l.idxOf other) one)[l.idxOf one]? = some other := by
    rw [List.getElem?_set_ne (by omega), List.getElem?_set_self (by omega)]
  have a2 := idx_le a1
  have a3 : l.idxOf one ≤ ((l.set (l.idxOf one) other).set (l.idxOf other) one).idxOf one := by
    refine idx_ge (by rw [List.length_set, List.length_set]; omega) fun p hp e => ?_
    rw [List.getElem?_set_ne (by omega), List.getElem?_set_ne (by omega)] at e
    have := idx_le e
    omega
  unfold isOrdB
  rw [show (ts.all fun t => decide ((((l.set (l.idxOf one) other).set (l.idxOf other) one).idxOf t.1 : Int) < ((l.set (l.idxOf one) other).set (l.idxOf other) one).idxOf t.2)) = false from List.all_eq_false.mpr ⟨(one, other), ht, by simp; omega⟩, Bool.and_false]
theorem drop_no {ts : List (Int × Int)} {ns l : List Int} (h : l.Perm ns) (hl : 0 < l.length) : isOrdB ts ns (l.drop 1) = false := by
  unfold isOrdB
  rw [decide_eq_false (fun z => ?_), Bool.false_and]
  have := (leI_perm.mp z).length_eq
  have := h.length_eq
  rw [List.length_drop] at *
  omega
theorem sort_row {l : List Int} {n : Nat} (h : l.Perm ((List.range n).map fun k : Nat => (k : Int) + 1)) : l.mergeSort leI = (List.range n).map fun k : Nat => (k : Int) + 1 := by
  rw [leI_perm.mpr h]
  exact List.mergeSort_of_pairwise (by
    rw [List.pairwise_map]
    exact List.pairwise_lt_range.imp fun h => leI_iff.mpr (by omega))
def φ_ordered (K : PySem.W.Frag) : Ph := fun B vs L k => ∃ (ra pa fa : Addr) (pick : Int) (many : Nat) (rows : List Dl) (ps : List (Int × Int)) (l : List Int), vs = [.ref ra, .ref pa, .ref fa] ∧ L = [] ∧ At (.list rowC) K B (.ref ra) rows ∧ At (.list (.tup2 .int .int)) K B (.ref pa) ps ∧ At (.list .int) K B (.ref fa) l ∧ Made pick many rows ps ∧ Ord ps (plOf rows) (rows.map (·.num)) (some l) ∧ rows.length = many ∧ 2 ≤ many ∧ many ≤ 90 ∧ ps.length ≤ 10000 ∧
  ∀ B', Same B B' → k B' (.bl true) []
theorem fn_l_ordered (T : Tx K mg) (fd : FuncData) (F : FunD K "_law_ordered" "_law_ordered" (defArgs s_l_ordered) (defBody s_l_ordered) (defScope s_l_ordered) [] [] (He.ga K "_law_ordered") fd) : FnOk P w K mg base CX0 7 (He.ga K "_law_ordered") fd ["rows", "pairs", "found"] (spY (φ_ordered K)) := by
  refine fnM F sc_l_ordered (fun B vs L k h => by obtain ⟨_, _, _, _, _, _, _, _, rfl, _⟩ := h; rfl) (fun cdv A outer s H vs Q E B L e hz he hr S h => ?_)
  obtain ⟨ra, pa, fa, pick, many, rows, ps, l, rfl, rfl, hra, hpa, hfa, hM, ho, hrl, hm2, hm, hpl, k⟩ := h
  refine ⟨_, (pss_cons (ps_if (PW.pt (pw_or (pt_cmpR op_isU (pv 2) pe_non (nomark _)) (pw_or (pt_cmpR (op_neZ (K := K) rfl hr.units) (pe_callB (call_sortedW (P := P) (w := w) (K := K) rfl rfl rfl rfl hr.units) (by rfl) T.n_sorted (by decide +kernel) (pa_cons (pv 2) pa_nil)) (pe_lc (own := [("k", 7)]) (by rfl) sc_l_ordered.nd (pi_range1 (by rfl) T.n_range (pa_cons (pe_callB (call_lenU (K := K) rfl) (by rfl) T.n_len (by decide +kernel) (pa_cons (pv 0) pa_nil)) pa_nil)) (blkOk_by (own := [("k", 7)]) (N := ["rows", "pairs", "found", "places", "one", "other", "turned", "k", "pair"]) (sc := defScope s_l_ordered) (by decide +kernel)) (fun _ _ _ _ _ => (pg_name (i := 7) sc_l_ordered.nd rfl (.inl rfl))) (fun _ _ _ _ _ => pts_nil) (fun _ _ _ _ _ => (pe_op (op_addU (K := K) rfl) (pv 7) pe_int))) (nomark _)) (pw_or1 (pt_cmpR op_notBl (pe_callO (ok_is_order (K := K) T) hr (by rfl) (pa_cons (pv 0) (pa_cons (pv 2) pa_nil))) pe_bl (nomark _))))))
      (pss_one (ps_ret pe_bl))
      pss_nil)
      (pss_cons (ps_set (i := 3) sc_l_ordered.nd rfl (.inr rfl) pe_dnewK)
      (pss_cons (ps_for PassesOwn.never rfl (pi_listK (K := K) rfl (pv 2)) (pg_name (i := 4) sc_l_ordered.nd rfl (.inl rfl))
      (pss_one (ps_asg (pe_callB (call_lenU (K := K) rfl) (by rfl) T.n_len (by decide +kernel) (pa_cons (pv 3) pa_nil)) (pg_sub (pv 3) (pv 4) (set_U (hu_of hr))))))
      (pss_cons (ps_if (PW.pt (pw_or (pt_cmpR (op_neZ (K := K) rfl hr.units) (pe_lc (own := [("pair", 8)]) (by rfl) sc_l_ordered.nd (pi_listK (K := K) rfl (pv 1)) (blkOk_by (own := [("pair", 8)]) (N := ["rows", "pairs", "found", "places", "one", "other", "turned", "k", "pair"]) (sc := defScope s_l_ordered) (by decide +kernel)) (fun _ _ _ _ _ => (pg_name (i := 8) sc_l_ordered.nd rfl (.inl rfl))) (fun _ _ _ _ _ => (pts_one (pt_cmpR op_gtU (pe_ix (ix_U (K := K) rfl (hu_of hr)) (pv 3) (pe_ix (ix_U (K := K) rfl (hu_of hr)) (pv 8) pe_int (fun _ _ => rfl)) (fun _ _ => rfl)) (pe_ix (ix_U (K := K) rfl (hu_of hr)) (pv 3) (pe_ix (ix_U (K := K) rfl (hu_of hr)) (pv 8) pe_int (fun _ _ => rfl)) (fun _ _ => rfl)) (nomark _)))) (fun _ _ _ _ _ => (pv 8))) (pe_lst pa_nil) (nomark _)) (pw_or1 (pt_val (pe_callO (ok_is_order (K := K) T) hr (by rfl) (pa_cons (pv 0) (pa_cons (pe_slice (sl_U (K := K) rfl) (pv 2) (po_some pe_int) po_none) pa_nil)))))))
      (pss_one (ps_ret pe_bl))
      pss_nil)
      (pss_cons (ps_if (pt_cmpR (op_eqZ (K := K) rfl hr.units) (pv 1) (pe_lst pa_nil) (nomark _))
      (pss_one (ps_ret pe_bl))
      pss_nil)
      (pss_cons (ps_asg (pe_ix (ix_U (K := K) rfl (hu_of hr)) (pv 1) (pe_un un_negU pe_int) (fun _ _ => rfl)) (pg_tupK (K := K) (n := 2) rfl rfl (pgs_cons (pg_name (i := 4) sc_l_ordered.nd rfl (.inl rfl)) (pgs_cons (pg_name (i := 5) sc_l_ordered.nd rfl (.inl rfl)) pgs_nil))))
      (pss_cons (ps_set (i := 6) sc_l_ordered.nd rfl (.inl rfl) (pe_callTy (call_listU (K := K) rfl) (by rfl) T.n_list (by decide +kernel) (pa_cons (pv 2) pa_nil)))
      (pss_cons (ps_asg (pv 5) (pg_sub (pv 6) (pe_ix (ix_U (K := K) rfl (hu_of hr)) (pv 3) (pv 4) (fun _ _ => rfl)) (set_U (hu_of hr))))
      (pss_cons (ps_asg (pv 4) (pg_sub (pv 6) (pe_ix (ix_U (K := K) rfl (hu_of hr)) (pv 3) (pv 5) (fun _ _ => rfl)) (set_U (hu_of hr))))
      (pss_one (ps_ret (pe_cmpR op_isBl (pe_callO (ok_is_order (K := K) T) hr (by rfl) (pa_cons (pv 0) (pa_cons (pv 6) pa_nil))) pe_bl (nomark _))))))))))))), ?_⟩
  walk_at "yn"
  obtain ⟨zs, hzl, ok⟩ := hM.ok
  obtain ⟨rv0, hrv0, hrp0⟩ := at_list_ref hra
  have hrvl : rv0.length = many := by rw [← hrl]; exact hrp0.length
  obtain ⟨pv0, hpv0, hpp0⟩ := at_list_ref hpa
  obtain ⟨lv, hlv, hlp⟩ := at_list_ref hfa
  have e0 := ints_of hlp
  subst e0
  have hgood := ho.good ok.nn
  have hll : l.length = many := by have := hgood.1.length_eq; rw [List.length_map] at this; omega
  have lnd : l.Nodup := hgood.1.nodup_iff.mpr ok.nn
  have hin : ∀ t ∈ ps, t.1 ∈ l ∧ t.2 ∈ l ∧ l.idxOf t.1 < l.idxOf t.2 := fun t ht => by
    obtain ⟨h1, h2⟩ := tie_in ok hM.ties ht
    exact ⟨hgood.1.mem_iff.mpr h1, hgood.1.mem_iff.mpr h2, hgood.2 _ _ ht h1 h2⟩
  have hin3 : ∀ m : List Int, At (.list .int) K B (.ref fa) m → m = m := fun _ _ => rfl
  walk_at "yy"
  refine y_sortInts S (S.l hlv) ?_
  refine y_newI S fun s1 B1 H b1 hs1 _ S => ?_
  walk_at "yn"
  refine y_lcRel (At .int K) at_up walk_range S (by rw [hrvl]; omega) (fun i => some ((i : Int) + 1)) (fun _ _ _ _ _ _ => trivial) (fun i x B3 H1 H1' acc D Kp Kn hi b3 S hy kp kn => ?_) (fun B2 H acc D2 b2 hD2 hp2 S => ?_)
  · obtain ⟨rfl, rfl⟩ := hy
    dsimp only
    walk_at "yn"
    rw [show (0 : Int) + (i : Nat) + 1 = (i : Int) + 1 by omega]
    exact kp _ _ _ _ rfl (Same.refl _) .int S
  rw [hrvl, show ((many : Nat) : Int).toNat = many by omega] at hp2
  have hp2 := pr_map hp2
  obtain ⟨B3, b3, hD3, S⟩ := S.frz 0 rfl hD2
  try simp only [List.eraseIdx] at S
  refine y_neC (.list .int) S (.list (sqL (up_o (by walk_at "up") hs1)) (pr_ofIntsX _)) (.list (sqL hD3) (pr_up at_up b3 hp2)) (by decide) ?_
  rw [decide_eq_true (sort_row (hgood.1.trans hM.nums))]
  walk_at "yy"
  refine y_sp0 S ⟨ra, fa, rows, l, rfl, rfl, ⟨At.up (by walk_at "up") hra, zs, ok, hzl⟩, At.up (by walk_at "up") hfa, by omega, fun us B4 hus b4 H T => ?_⟩
  replace S := S.back0 T
  clear T
  walk_at "yn"
  have e1 := hus.uniq hM.ties
  subst e1
  rw [isOrd_good ok hM.ties ho]
  refine ⟨_, _, rfl, rfl, ?_⟩
  rw [show (!decide (true = true)) = false from rfl]
  walk_at "yy"
  refine y_newM S fun pd H hpd0 S => ?_
  walk_at "yn"
  refine y_forC (e := e) (c := .int) (fun i σ H => (∃ (y4 y5 y6 y7 y8 : Option V), σ = [some (.ref ra), some (.ref pa), some (.ref fa), some (.ref pd), y4, y5, y6, y7, y8]) ∧ Sy e B4 H [(pd, .dK (((l.take i).map fun x => (x, (l.idxOf x : Int))).map enc))]) (At.up (by walk_at "up") hfa) ⟨⟨_, _, _, _, _, rfl⟩, S⟩ (fun i σ H hi ⟨_, S⟩ => ⟨B4, _, Same.refl _, S⟩) ?_ ?_
  · clear S
    rintro i x n σ H hx hxz ⟨⟨y4, y5, y6, y7, y8, rfl⟩, S⟩
    have e1 := at_int hxz
    subst e1
    have hil : i < l.length := (List.getElem?_eq_some_iff.mp hx).1
    have htk : l.take (i + 1) = l.take i ++ [n] := by rw [List.take_add_one, hx]; rfl
    have hnn : n ∉ ((l.take i).map fun x => (x, (l.idxOf x : Int))).map (·.1) := by
      rw [List.map_map]
      intro hm
      have hm : n ∈ (l.take i).map id := hm
      rw [List.map_id] at hm
      have nd2 : (l.take (i + 1)).Nodup := lnd.sublist (List.take_sublist _ _)
      rw [htk] at nd2
      exact (List.nodup_append.mp nd2).2.2 _ hm _ (List.mem_singleton_self _) rfl
    have hlen : (((l.take i).map fun x => (x, (l.idxOf x : Int))).map enc).length = i := by rw [List.length_map, List.length_map, List.length_take]; omega
    walk_at "yn"
    refine y_lenD (.inl (S.at 0 rfl)) ?_
    rw [hlen]
    walk_at "yn"
    refine y_setD (kk := .inl n) 0 S rfl rfl (lenLt (by omega)) fun H S => ?_
    try simp only [List.set] at S
    rw [put_enc hnn] at S
    refine ⟨⟨_, _, _, _, _, rfl⟩, ?_⟩
    rw [htk, List.map_append]
    simp only [List.map_cons, List.map_nil]
    rw [idx_at lnd hx]
    exact S
  clear S
  rintro σ H ⟨⟨y4, y5, y6, y7, y8, rfl⟩, S⟩
  rw [List.take_length] at S
  obtain ⟨B5, b5, hpd, S⟩ := S.frz 0 rfl hpd0
  try simp only [List.eraseIdx] at S
  have lk : ∀ n ∈ l, valV ((l.map fun x => (x, (l.idxOf x : Int))).map enc) (.inl n) = some (.int (l.idxOf n)) := fun n hn => by
    rw [valV_enc, mem_look (v := (l.idxOf n : Int)) (by rw [List.map_map]; show (l.map id).Nodup; rw [List.map_id]; exact lnd) (List.mem_map.mpr ⟨n, hn, rfl⟩)]
    rfl
  walk_at "yy"
  refine y_lcI (cx := .tup2 .int .int) (cy := .tup2 .int .int) (fun _ => none) S (At.up (by walk_at "up") hpa) (by omega) (fun i z x B8 H8 D acc Kp Kn hz b8 hx S kp kn => ?_) (fun D B6 H b6 hD hl6 S => ?_)
  · obtain ⟨tp, v1, v2, rfl, htp, hv1, hv2⟩ := at_tup2 hx
    have e1 := at_int hv1
    have e2 := at_int hv2
    subst e1 e2
    obtain ⟨h1, h2, h3⟩ := hin z (List.mem_of_getElem? hz)
    walk_at "yn"
    refine y_ixD (k := .inl z.1) (S.rd (up_o (by walk_at "up") hpd)) rfl (lk _ h1) ?_
    walk_at "yn"
    refine y_ixD (k := .inl z.2) (S.rd (up_o (by walk_at "up") hpd)) rfl (lk _ h2) ?_
    walk_at "yn"
    rw [decide_eq_false (by omega)]
    walk_at "yn"
    exact kn _ _ rfl (Same.refl _) S
  obtain ⟨vb, qb, pb⟩ := at_list_ref hl6
  rw [show us.filterMap (fun _ => (none : Option (Int × Int))) = [] from List.filterMap_eq_nil_iff.mpr fun _ _ => rfl] at pb
  cases pb
  walk_at "yy"
  refine y_newM S fun q H hq0 S => ?_
  walk_at "yn"
  refine z_neE (S.l qb) (sqL (S.at 0 rfl)) ?_
  replace S := S.none
  rw [show (!([] : List V).isEmpty) = false from rfl]
  walk_at "yy"
  refine y_slL (S.l (up_l (by walk_at "up") hlv)) ?_
  rw [cut1, ← List.map_drop]
  refine y_newI S fun s2 B7 H b7 hs2 _ S => ?_
  walk_at "yy"
  refine y_sp0 S ⟨ra, s2, rows, l.drop 1, rfl, rfl, ⟨At.up (by walk_at "up") hra, zs, ok, hzl⟩, .list (sqL hs2) (pr_ofIntsX _), by rw [List.length_drop]; omega, fun us2 B8 hus2 b8 H T => ?_⟩
  replace S := S.back0 T
  clear T
  walk_at "yn"
  have e1 := hus2.uniq hM.ties
  subst e1
  rw [drop_no hgood.1 (by omega)]
  walk_at "yy"
  refine y_newM S fun q2 H hq20 S => ?_
  walk_at "yn"
  refine z_eqE (S.l (up_l (by walk_at "up") hpv0)) (sqL (S.at 0 rfl)) ?_
  replace S := S.none
  rcases snoc_cases us2 with h0 | ⟨m, x, h0⟩
  · rw [h0] at hpp0
    cases hpp0
    walk_at "yy"
    exact k _ (by walk_at "up") _ S
  have hxin := hin x (by rw [h0]; exact List.mem_append_right _ (List.mem_singleton_self _))
  have hxm : x ∈ us2 := by rw [h0]; exact List.mem_append_right _ (List.mem_singleton_self _)
  rw [h0] at hpp0
  obtain ⟨m', y, rfl, hy⟩ := pr_snoc hpp0
  obtain ⟨tp, v1, v2, rfl, htp, hv1, hv2⟩ := at_tup2 hy
  have e1 := at_int hv1
  have e2 := at_int hv2
  subst e1 e2
  obtain ⟨x1, x2⟩ := x
  obtain ⟨i1, i2, i3⟩ := hxin
  replace i1 : x1 ∈ l := i1
  replace i2 : x2 ∈ l := i2
  replace i3 : l.idxOf x1 < l.idxOf x2 := i3
  rw [show (m' ++ [V.ref tp]).isEmpty = false by simp]
  walk_at "yy"
  refine y_ixL (S.l (up_l (by walk_at "up") hpv0)) (v := .ref tp) (atI_lastX _ _) ?_
  walk_at "yy"
  refine y_listOf (S.l (up_l (by walk_at "up") hlv)) ?_
  refine y_newM S fun tu H htu0 S => ?_
  walk_at "yn"
  have l1 := List.idxOf_lt_length_of_mem i1
  have l2 := List.idxOf_lt_length_of_mem i2
  refine y_ixD (k := .inl x1) (S.rd (up_o (by walk_at "up") hpd)) rfl (lk _ i1) ?_
  refine y_setL (j := l.idxOf x1) 0 S rfl (by unfold ixN; rw [if_pos (by omega), List.length_map, if_pos (by show ((l.idxOf x1 : Nat) : Int) < (l.length : Nat); omega)]; rfl) fun H S => ?_
  try simp only [List.set] at S
  walk_at "yn"
  refine y_ixD (k := .inl x2) (S.rd (up_o (by walk_at "up") hpd)) rfl (lk _ i2) ?_
  refine y_setL (j := l.idxOf x2) 0 S rfl (by unfold ixN; rw [if_pos (by omega), List.length_set, List.length_map, if_pos (by show ((l.idxOf x2 : Nat) : Int) < (l.length : Nat); omega)]; rfl) fun H S => ?_
  try simp only [List.set] at S
  rw [← List.map_set, ← List.map_set] at S
  obtain ⟨B9, b9, htu, S⟩ := S.frz 0 rfl htu0
  try simp only [List.eraseIdx] at S
  walk_at "yn"
  refine y_sp0 S ⟨ra, tu, rows, (l.set (l.idxOf x1) x2).set (l.idxOf x2) x1, rfl, rfl, ⟨At.up (by walk_at "up") hra, zs, ok, hzl⟩, .list (sqL htu) (pr_ofIntsX _), by rw [List.length_set, List.length_set]; omega, fun us3 B10 hus3 b10 H T => ?_⟩
  replace S := S.back0 T
  clear T
  walk_at "yn"
  have e1 := hus3.uniq hM.ties
  subst e1
  rw [turned_no hxm i1 i2 i3]
  refine ⟨_, _, rfl, rfl, ?_⟩
  exact k _ (by walk_at "up") _ S
theorem ok_l_ordered (T : Tx K mg) : Ok P w K mg base 7 "_law_ordered" ["rows", "pairs", "found"] (spY (φ_ordered K)) :=
  Ok.of T.F_l_ordered T.g_l_ordered (fun _ _ _ _ _ _ us hl => match us, hl with | [_, _, _], _ => rfl) (fn_l_ordered T)
theorem fn_law (T : Tx K mg) (fd : FuncData) (F : FunD K "law" "law" (defArgs s_law) (defBody s_law) (defScope s_law) [] [] (He.ga K "law") fd) : FnOk P w K mg base CX0 8 (He.ga K "law") fd ["script"] (spY (φ_law K)) := by
  refine fnY F sc_law (fun B vs L k h => by obtain ⟨_, _, rfl, _⟩ := h; rfl) (fun cdv A outer s H vs Q E B L e hz he hr S h => ?_)
  obtain ⟨a, ns, rfl, rfl, hq, hlen, k⟩ := h
  refine ⟨_, (pss_cons (ps_set (i := 1) sc_law.nd rfl (.inl rfl) (pe_callO (ok_l_well (K := K) T) (hr.mono (by decide)) (by rfl) (pa_cons (pe_callO (ok_l_cell_at (K := K) T) (hr.mono (by decide)) (by rfl) (pa_cons (pv 0) (pa_cons pe_int pa_nil))) (pa_cons pe_int pa_nil))))
      (pss_cons (ps_set (i := 2) sc_law.nd rfl (.inl rfl) (pe_callO (ok_l_draw (K := K) T) (hr.mono (by decide)) (by rfl) (pa_cons (pv 1) (pa_cons pe_int pa_nil))))
      (pss_cons (ps_set (i := 3) sc_law.nd rfl (.inr rfl) (pe_op (op_addU (K := K) rfl) pe_int (pe_callO (ok_l_draw (K := K) T) (hr.mono (by decide)) (by rfl) (pa_cons (pv 1) (pa_cons (pe_ix (ix_U (K := K) rfl (hu_of hr)) (pe_lst (pa_cons pe_int (pa_cons (pe_ix (ix_U (K := K) rfl (hu_of hr)) (pe_lst (pa_cons pe_int (pa_cons pe_int (pa_cons pe_int (pa_cons pe_int pa_nil))))) (pv 2) (fun _ _ => rfl)) pa_nil))) (pe_callO (ok_l_draw (K := K) T) (hr.mono (by decide)) (by rfl) (pa_cons (pv 1) (pa_cons pe_int pa_nil))) (fun _ _ => rfl)) pa_nil)))))
      (pss_cons (ps_if (pt_cmpR (op_eqZ (K := K) rfl hr.units) (pv 2) pe_int (nomark _))
      (pss_one (ps_asg (pe_callO (ok_l_in_row (K := K) T) (hr.mono (by decide)) (by rfl) (pa_cons (pv 3) pa_nil)) (pg_tupK (K := K) (n := 2) rfl rfl (pgs_cons (pg_name (i := 4) sc_law.nd rfl (.inl rfl)) (pgs_cons (pg_name (i := 5) sc_law.nd rfl (.inl rfl)) pgs_nil)))))
      (pss_one (ps_if (pt_cmpR (op_eqZ (K := K) rfl hr.units) (pv 2) pe_int (nomark _))
      (pss_one (ps_asg (pe_callO (ok_l_reading_next (K := K) T) (hr.mono (by decide)) (by rfl) (pa_cons (pv 3) pa_nil)) (pg_tupK (K := K) (n := 2) rfl rfl (pgs_cons (pg_name (i := 4) sc_law.nd rfl (.inl rfl)) (pgs_cons (pg_name (i := 5) sc_law.nd rfl (.inl rfl)) pgs_nil)))))
      (pss_one (ps_if (pt_cmpR (op_eqZ (K := K) rfl hr.units) (pv 2) pe_int (nomark _))
      (pss_one (ps_asg (pe_callO (ok_l_round (K := K) T) (hr.mono (by decide)) (by rfl) (pa_cons (pv 3) pa_nil)) (pg_tupK (K := K) (n := 2) rfl rfl (pgs_cons (pg_name (i := 4) sc_law.nd rfl (.inl rfl)) (pgs_cons (pg_name (i := 5) sc_law.nd rfl (.inl rfl)) pgs_nil)))))
      (pss_one (ps_asg (pe_callO (ok_l_readers (K := K) T) (hr.mono (by decide)) (by rfl) (pa_cons (pv 1) (pa_cons (pv 3) pa_nil))) (pg_tupK (K := K) (n := 2) rfl rfl (pgs_cons (pg_name (i := 4) sc_law.nd rfl (.inl rfl)) (pgs_cons (pg_name (i := 5) sc_law.nd rfl (.inl rfl)) pgs_nil))))))))))
      (pss_cons (ps_set (i := 4) sc_law.nd rfl (.inl rfl) (pe_callO (ok_l_mixed (K := K) T) (hr.mono (by decide)) (by rfl) (pa_cons (pv 1) (pa_cons (pv 4) pa_nil))))
      (pss_cons (ps_set (i := 6) sc_law.nd rfl (.inl rfl) (pe_callO (ok_order (K := K) T) hr (by rfl) (pa_cons (pv 4) pa_nil)))
      (pss_cons (ps_if (PW.pt (pw_or (pt_cmpR (op_neZ (K := K) rfl hr.units) (pe_callO (ok_ties (K := K) T) (hr.mono (by decide)) (by rfl) (pa_cons (pv 4) pa_nil)) (pv 5) (nomark _)) (pw_or1 (pt_cmpR (op_neZ (K := K) rfl hr.units) (pe_cmpR op_isU (pe_callO (ok_ring (K := K) T) hr (by rfl) (pa_cons (pv 4) pa_nil)) pe_non (nomark _)) (pe_cmpR (op_neZ (K := K) rfl hr.units) (pv 2) pe_int (nomark _)) (nomark _)))))
      (pss_one (ps_ret pe_bl))
      pss_nil)
      (pss_cons (ps_if (pt_cmpR (op_eqZ (K := K) rfl hr.units) (pv 2) pe_int (nomark _))
      (pss_cons (ps_set (i := 7) sc_law.nd rfl (.inr rfl) (pe_callO (ok_ring (K := K) T) hr (by rfl) (pa_cons (pv 4) pa_nil)))
      (pss_cons (ps_setLc (i := 8) (own := [("k", 9)]) (by rfl) sc_law.nd rfl rfl (sw_true rfl rfl rfl (by decide +kernel)) (pi_range1 (by rfl) T.n_range (pa_cons (pe_callB (call_lenU (K := K) rfl) (by rfl) T.n_len (by decide +kernel) (pa_cons (pv 7) pa_nil)) pa_nil)) (blkOk_by (own := [("k", 9)]) (N := ["script", "well", "pick", "many", "rows", "pairs", "found", "row", "after", "k", "one"]) (sc := defScope s_law) (by decide +kernel)) (fun _ _ _ _ _ => (pg_name (i := 9) sc_law.nd rfl (.inl rfl))) (fun _ _ _ _ _ => pts_nil) (fun _ _ _ _ _ => (pe_ix (ix_U (K := K) rfl (hu_of hr)) (pv 7) (pe_op op_modU (pe_op (op_addU (K := K) rfl) (pv 9) pe_int) (pv 3)) (fun _ _ => rfl))))
      (pss_one (ps_ret (pe_and (pe_cmpR op_isU (pv 6) pe_non (nomark _)) (pe_and (pe_cmpR (op_eqZ (K := K) rfl hr.units) (pe_callB (call_lenU (K := K) rfl) (by rfl) T.n_len (by decide +kernel) (pa_cons (pv 7) pa_nil)) (pv 3) (nomark _)) (pe_one (pe_cmpR (op_eqZ (K := K) rfl hr.units) (pv 8) (pe_lc (own := [("one", 10)]) (by rfl) sc_law.nd (pi_listK (K := K) rfl (pv 7)) (blkOk_by (own := [("one", 10)]) (N := ["script", "well", "pick", "many", "rows", "pairs", "found", "row", "after", "k", "one"]) (sc := defScope s_law) (by decide +kernel)) (fun _ _ _ _ _ => (pg_name (i := 10) sc_law.nd rfl (.inl rfl))) (fun _ _ _ _ _ => pts_nil) (fun _ _ _ _ _ => (pe_op (op_addU (K := K) rfl) (pe_op op_modU (pv 10) (pv 3)) pe_int))) (nomark _)))))))))
      pss_nil)
      (pss_cons (ps_if (PW.pt (pw_and (pt_cmpR op_ltU (pv 2) pe_int (nomark _)) (pw_and1 (pt_cmpR (op_neZ (K := K) rfl hr.units) (pv 6) (pe_lc (own := [("k", 9)]) (by rfl) sc_law.nd (pi_range1 (by rfl) T.n_range (pa_cons (pv 3) pa_nil)) (blkOk_by (own := [("k", 9)]) (N := ["script", "well", "pick", "many", "rows", "pairs", "found", "row", "after", "k", "one"]) (sc := defScope s_law) (by decide +kernel)) (fun _ _ _ _ _ => (pg_name (i := 9) sc_law.nd rfl (.inl rfl))) (fun _ _ _ _ _ => pts_nil) (fun _ _ _ _ _ => (pe_op (op_addU (K := K) rfl) (pv 9) pe_int))) (nomark _)))))
      (pss_one (ps_ret pe_bl))
      pss_nil)
      (pss_one (ps_ret (pe_callO (ok_l_ordered (K := K) T) hr (by rfl) (pa_cons (pv 4) (pa_cons (pv 5) (pa_cons (pv 6) pa_nil))))))))))))))), ?_⟩
  walk_at "yy"
  refine y_cell S hq (by omega) fun c H S => ?_
  walk_at "yn"
  refine y_bag S (by omega) (by omega) fun bg o H hb0 hb S => ?_
  walk_at "yn"
  refine y_drawN 0 S rfl hb (by omega) (by omega) (by omega) fun pick o H pick0 pick1 hb S => ?_
  try simp only [List.set] at S
  walk_at "yn"
  refine y_newI S fun q1 B1 H b1 hq1 _ S => ?_
  obtain ⟨m1, hm1, hm2, hm3⟩ : ∃ m1 : Int, atI [V.int 79, V.int 59, V.int 59, V.int 79] pick = some (.int m1) ∧ 0 < m1 ∧ m1 ≤ 79 := by
    rcases (by omega : pick = 0 ∨ pick = 1 ∨ pick = 2 ∨ pick = 3) with rfl | rfl | rfl | rfl
    · exact ⟨79, rfl, by decide, by decide⟩
    · exact ⟨59, rfl, by decide, by decide⟩
    · exact ⟨59, rfl, by decide, by decide⟩
    · exact ⟨79, rfl, by decide, by decide⟩
  walk_at "yn"
  refine y_ixL (S.l (sqL hq1)) hm1 ?_
  walk_at "yn"
  refine y_newI S fun q2 B2 H b2 hq2 _ S => ?_
  walk_at "yn"
  refine y_drawN 0 S rfl hb (by omega) (by omega) (by omega) fun d0 o H d00 d01 hb S => ?_
  try simp only [List.set] at S
  walk_at "yn"
  obtain ⟨m2, hm4, hm5, hm6⟩ : ∃ m2 : Int, atI [V.int 10, V.int m1] d0 = some (.int m2) ∧ 0 < m2 ∧ m2 ≤ 79 := by
    rcases (by omega : d0 = 0 ∨ d0 = 1) with rfl | rfl
    · exact ⟨10, rfl, by decide, by decide⟩
    · exact ⟨m1, rfl, hm2, hm3⟩
  refine y_ixL (S.l (sqL hq2)) hm4 ?_
  walk_at "yn"
  refine y_drawN 0 S rfl hb (by omega) (by omega) (by omega) fun d1 o H d10 d11 hb S => ?_
  try simp only [List.set] at S
  walk_at "yn"
  obtain ⟨many, hmany⟩ : ∃ n : Nat, 2 + d1 = (n : Int) := ⟨(2 + d1).toNat, by omega⟩
  rw [hmany]
  have hmn2 : 2 ≤ many := by omega
  have hmn : many ≤ 90 := by omega
  refine y_cutS (R := fun σ H => ∃ (B3 : Hp) (o : HO) (ra pa : Addr) (rows : List Dl) (ps : List (Int × Int)), (∃ (y6 y7 y8 y9 y10 : Option V), σ = [some (.ref a), some (.ref bg), some (.int pick), some (.int many), some (.ref ra), some (.ref pa), y6, y7, y8, y9, y10]) ∧ Same B2 B3 ∧ Sy e B3 H [(bg, o)] ∧ Bag 1000 o ∧ At (.list rowC) K B3 (.ref ra) rows ∧ At (.list (.tup2 .int .int)) K B3 (.ref pa) ps ∧ Made pick many rows ps ∧ rows.length = many ∧ ps.length ≤ 10000) (fun nx' hnx => ?_) (fun σ H hR => ?_)
  · refine y_ifS ?_
    walk_at "yn"
    refine y_iteI (fun hc => ?_) (fun hc => ?_)
    · subst hc
      walk_at "yn"
      refine y_sp0 S ⟨many, rfl, rfl, hmn, hmn2, fun p ra pa rows ps B3 hp hra hpa hM hrl hpl b3 H T => ?_⟩
      replace S := S.back0 T
      clear T
      walk_at "yn"
      exact hnx _ _ ⟨B3, o, ra, pa, rows, ps, ⟨_, _, _, _, _, rfl⟩, b3, S, hb.mono (by omega), hra, hpa, hM, hrl, hpl⟩
    refine y_ifS ?_
    walk_at "yn"
    refine y_iteI (fun hc => ?_) (fun hc => ?_)
    · subst hc
      walk_at "yn"
      refine y_sp0 S ⟨many, rfl, rfl, hmn, hmn2, fun p ra pa rows ps B3 hp hra hpa hM hrl hpl b3 H T => ?_⟩
      replace S := S.back0 T
      clear T
      walk_at "yn"
      exact hnx _ _ ⟨B3, o, ra, pa, rows, ps, ⟨_, _, _, _, _, rfl⟩, b3, S, hb.mono (by omega), hra, hpa, hM, hrl, hpl⟩
    refine y_ifS ?_
    walk_at "yn"
    refine y_iteI (fun hc => ?_) (fun hc => ?_)
    · subst hc
      walk_at "yn"
      refine y_sp0 S ⟨many, rfl, rfl, hmn, hmn2, fun p ra pa rows ps B3 hp hra hpa hM hrl hpl b3 H T => ?_⟩
      replace S := S.back0 T
      clear T
      walk_at "yn"
      exact hnx _ _ ⟨B3, o, ra, pa, rows, ps, ⟨_, _, _, _, _, rfl⟩, b3, S, hb.mono (by omega), hra, hpa, hM, hrl, hpl⟩
    · obtain rfl : pick = 3 := by omega
      walk_at "yn"
      refine y_spN 0 S rfl ⟨bg, o, many, 10000, rfl, rfl, hb.mono (by omega), hmn, hmn2, fun o hb p ra pa rows ps B3 hp hra hpa hM hrl hpl b3 H T => ?_⟩
      replace S := S.backN1 0 rfl T
      clear T
      try simp only [List.set] at S
      walk_at "yn"
      exact hnx _ _ ⟨B3, o, ra, pa, rows, ps, ⟨_, _, _, _, _, rfl⟩, b3, S, hb.mono (by omega), hra, hpa, hM, hrl, hpl⟩
  clear S hb
  obtain ⟨B3, o, ra, pa, rows, ps, ⟨y6, y7, y8, y9, y10, rfl⟩, b3, S, hb, hra, hpa, hM, hrl, hpl⟩ := hR
  obtain ⟨pv0, hpv0, -⟩ := at_list_ref hpa
  walk_at "yn"
  refine y_spN 0 S rfl ⟨bg, o, ra, rows, 100, rfl, rfl, hb.mono (by omega), hra, by omega, fun mx rows' o B4 hpm hmx hb b4 H T => ?_⟩
  replace S := S.backN1 0 rfl T
  clear T
  try simp only [List.set] at S
  walk_at "yn"
  replace hM := hM.perm hpm
  replace hrl : rows'.length = many := by rw [hpm.length_eq]; exact hrl
  replace S := S.none
  clear hpm hra hb
  obtain ⟨zs, hzl, ok⟩ := hM.ok
  have hrl' := ok.len
  refine y_sp0 S ⟨mx, rows', rfl, rfl, ⟨hmx, zs, ok, hzl⟩, fun us B5 hus b5 => ?_⟩
  have e1 := hus.uniq hM.ties
  subst e1
  by_cases hp2 : pick = 2
  · subst hp2
    have ho2 := hM.ord2 (by omega)
    refine ⟨fun ho H T => ?_, fun p l ho H T => (by have := ho.uniq ho2; cases this)⟩
    replace S := S.back0 T
    clear T
    walk_at "yy"
    refine y_sp0 S ⟨mx, rows', zs, rfl, rfl, At.up (by walk_at "up") hmx, hrl', hw_of ok, hzl, fun p ws ts B6 hpr hts b6 H T => ?_⟩
    obtain ⟨hp0, S⟩ := S.backN0 T
    clear T
    have e1 := hts.uniq hM.ties
    subst e1
    obtain ⟨B7, b7, hp7, S⟩ := S.frz 0 rfl hp0
    try simp only [List.eraseIdx] at S
    have hats : At (.list (.tup2 .int .int)) K B7 (.ref p) ts := .list (sqL hp7) (pr_up at_up b7 (pr_pairs hpr))
    walk_at "yy"
    refine y_neC (.list (.tup2 .int .int)) S hats (At.up (by walk_at "up") hpa) (by decide) ?_
    rw [decide_eq_true rfl]
    walk_at "yy"
    refine y_sp0 S ⟨mx, rows', rfl, rfl, ⟨At.up (by walk_at "up") hmx, zs, ok, hzl⟩, fun us2 B8 hus2 b8 => ?_⟩
    have e1 := hus2.uniq hM.ties
    subst e1
    refine ⟨fun hl H T => absurd ho2 (ord_none hl fun x hx => hx), fun p2 rs hne hrg H T => ?_⟩
    obtain ⟨-, S⟩ := S.backN0 T
    clear T hne hrg
    replace S := S.none
    walk_at "yy"
    rw [show (!decide (V.bl false = V.bl (!decide (V.int 2 = V.int 2)))) = false from rfl]
    walk_at "yy"
    rw [decide_eq_true rfl]
    walk_at "yy"
    refine y_sp0 S ⟨mx, rows', rfl, rfl, ⟨At.up (by walk_at "up") hmx, zs, ok, hzl⟩, fun us3 B9 hus3 b9 => ?_⟩
    have e1 := hus3.uniq hM.ties
    subst e1
    refine ⟨fun hl H T => absurd ho2 (ord_none hl fun x hx => hx), fun p3 rg hne hrg H T => ?_⟩
    obtain ⟨hp30, S⟩ := S.backN0 T
    clear T
    obtain ⟨B10, b10, hp3, S⟩ := S.frz 0 rfl hp30
    try simp only [List.eraseIdx] at S
    obtain ⟨hgl, hgn⟩ := hM.ring2 (by omega) hrg
    have hrgA : At (.list .int) K B10 (.ref p3) rg := .list (sqL hp3) (pr_ofIntsX _)
    walk_at "yy"
    rw [List.length_map, hgl]
    walk_at "yy"
    refine y_lcRel (At .int K) at_up walk_range S (by omega) (fun i => rg[i]?.bind fun x => some (x % (many : Int) + 1)) (fun _ _ _ _ _ _ => trivial) (fun i x B11 H1 H1' acc D Kp Kn hi b11 S hy kp kn => ?_) (fun B11 H acc D b11 hD hp11 S => ?_)
    · obtain ⟨rfl, rfl⟩ := hy
      dsimp only
      have hi : i < rg.length := by omega
      obtain ⟨x, hx⟩ : ∃ x, rg[i]? = some x := ⟨_, List.getElem?_eq_getElem hi⟩
      have hnx := hgn i x hx
      have e2 : ((0 : Int) + (i : Nat) + 1) % (many : Nat) = (((i + 1) % many : Nat) : Int) := by rw [show (0 : Int) + (i : Nat) + 1 = (i : Int) + 1 by omega]; exact modNat i many
      walk_at "yn"
      rw [e2]
      refine y_ixL (S.l (sqL (up_o (by walk_at "up") hp3))) (v := .int (x % (many : Int) + 1)) (atI_of (by omega) (by rw [show ((((i + 1) % many : Nat) : Int)).toNat = (i + 1) % many by omega, List.getElem?_map, hnx]; rfl)) ?_
      exact kp _ _ _ _ (by rw [hx]; rfl) (Same.refl _) .int S
    rw [show ((many : Nat) : Int).toNat = rg.length by omega, range_bind, fm_some] at hp11
    obtain ⟨B12, b12, hD12, S⟩ := S.frz 0 rfl hD
    try simp only [List.eraseIdx] at S
    have haf : At (.list .int) K B12 (.ref D) (rg.map fun x => x % (many : Int) + 1) := .list (sqL hD12) (pr_up at_up b12 hp11)
    walk_at "yy"
    rw [List.length_map, hgl, decide_eq_true rfl]
    walk_at "yy"
    refine y_lcI (cx := .int) (cy := .int) (fun x => some (x % (many : Int) + 1)) S (At.up (by walk_at "up") hrgA) (by omega) (fun i z x B13 H7 D acc Kp Kn hz b13 hx S kp kn => ?_) (fun D2 B13 H b13 hD2 hl S => ?_)
    · have e1 := at_int hx
      subst e1
      walk_at "yn"
      exact kp _ _ _ _ rfl (Same.refl _) .int S
    rw [fm_some] at hl
    refine y_eqC (.list .int) S (At.up (by walk_at "up") haf) hl (by decide) ?_
    rw [decide_eq_true rfl]
    exact k _ (by walk_at "up") _ S
  · obtain ⟨rk, hrk⟩ := hM.rk hp2
    refine ⟨fun ho H T => absurd rfl (rank_ord hrk ho), fun p l ho H T => ?_⟩
    obtain ⟨hp0, S⟩ := S.backN0 T
    clear T
    obtain ⟨B6, b6, hp6, S⟩ := S.frz 0 rfl hp0
    try simp only [List.eraseIdx] at S
    have hlA : At (.list .int) K B6 (.ref p) l := .list (sqL hp6) (pr_ofIntsX _)
    walk_at "yy"
    refine y_sp0 S ⟨mx, rows', zs, rfl, rfl, At.up (by walk_at "up") hmx, hrl', hw_of ok, hzl, fun p2 ws ts B7 hpr hts b7 H T => ?_⟩
    obtain ⟨hp20, S⟩ := S.backN0 T
    clear T
    have e1 := hts.uniq hM.ties
    subst e1
    obtain ⟨B8, b8, hp8, S⟩ := S.frz 0 rfl hp20
    try simp only [List.eraseIdx] at S
    have hats : At (.list (.tup2 .int .int)) K B8 (.ref p2) ts := .list (sqL hp8) (pr_up at_up b8 (pr_pairs hpr))
    walk_at "yy"
    refine y_neC (.list (.tup2 .int .int)) S hats (At.up (by walk_at "up") hpa) (by decide) ?_
    rw [decide_eq_true rfl]
    walk_at "yy"
    refine y_sp0 S ⟨mx, rows', rfl, rfl, ⟨At.up (by walk_at "up") hmx, zs, ok, hzl⟩, fun us2 B9 hus2 b9 => ?_⟩
    have e1 := hus2.uniq hM.ties
    subst e1
    refine ⟨fun hl H T => ?_, fun p3 rs hne hrg H T => absurd hrg (ord_ring ho ok.nn (fun t ht => tie_in ok hM.ties ht))⟩
    replace S := S.back0 T
    clear T
    walk_at "yy"
    rw [show decide (V.int pick = V.int 2) = false from decide_eq_false fun z => hp2 (V.int.inj z)]
    rw [show (!decide (V.bl true = V.bl (!false))) = false from rfl]
    walk_at "yy"
    rw [show decide (V.int pick = V.int 2) = false from decide_eq_false fun z => hp2 (V.int.inj z)]
    walk_at "yn"
    refine y_cutS (R := fun σ H => ∃ (B10 : Hp), (∃ (y1 y2 y3 y7 y8 y9 y10 : Option V), σ = [some (.ref a), y1, y2, y3, some (.ref mx), some (.ref pa), some (.ref p), y7, y8, y9, y10]) ∧ Same B9 B10 ∧ Sy e B10 H []) (fun nx' hnx => ?_) (fun σ H hR => ?_)
    · refine y_ifS ?_
      walk_at "yy"
      refine y_ite (fun hc => ?_) (fun hc => ?_)
      · walk_at "yy"
        refine y_lcRel (At .int K) at_up walk_range S (by omega) (fun i => some ((i : Int) + 1)) (fun _ _ _ _ _ _ => trivial) (fun i x B3 H1 H1' acc D Kp Kn hi b3 S hy kp kn => ?_) (fun B10 H acc D2 b10 hD2 hp2 S => ?_)
        · obtain ⟨rfl, rfl⟩ := hy
          dsimp only
          walk_at "yn"
          rw [show (0 : Int) + (i : Nat) + 1 = (i : Int) + 1 by omega]
          exact kp _ _ _ _ rfl (Same.refl _) .int S
        rw [show ((many : Nat) : Int).toNat = many by omega] at hp2
        have hp2 := pr_map hp2
        obtain ⟨B11, b11, hD3, S⟩ := S.frz 0 rfl hD2
        try simp only [List.eraseIdx] at S
        refine y_neC (.list .int) S (At.up (by walk_at "up") hlA) (.list (sqL hD3) (pr_up at_up b11 hp2)) (by decide) ?_
        rw [decide_eq_true (hM.ord1 hc ho)]
        walk_at "yy"
        exact hnx _ _ ⟨B11, ⟨_, _, _, _, _, _, _, rfl⟩, by walk_at "up", S⟩
      · walk_at "yy"
        exact hnx _ _ ⟨B9, ⟨_, _, _, _, _, _, _, rfl⟩, Same.refl _, S⟩
    clear S
    obtain ⟨B10, ⟨y1, y2, y3, y7, y8, y9, y10, rfl⟩, b10, S⟩ := hR
    walk_at "yy"
    refine y_sp0 S ⟨mx, pa, p, pick, many, rows', _, l, rfl, rfl, At.up (by walk_at "up") hmx, At.up (by walk_at "up") hpa, At.up (by walk_at "up") hlA, hM, ho, hrl, hmn2, hmn, hpl, fun B11 b11 H T => ?_⟩
    replace S := S.back0 T
    exact k _ (by walk_at "up") _ S

theorem fin {h : Heap} {fa : Addr} (X : K.In h) (G : h.Ns mainGlobals mg) (hmg : mg "law" = some (.ref fa)) (T : Tx K mg) :
    ∃ (K : PySem.W.Frag) (fd : FuncData) (sp : Sp), K.In h ∧ (∀ (s : Shared) (u : Value), BindsTo s fd ⟨[u], []⟩ [("script", u)]) ∧
      (∀ (H : Hp) (a : Addr) (ns : List Int), ns.length ≤ 63 → Only H → SqL K H a (ns.map V.int) → sp [.ref a] H (fun v _ => v = .bl true) fun _ _ _ => False) ∧
        ∀ base : Heap, K.In base → base.Ns mainGlobals mg → FnOk P w K mg base CX0 8 fa fd ["script"] sp := by
  obtain ⟨fd, F⟩ := T.F_law
  have e := hmg.symm.trans T.g_law
  cases e
  have b := FunD.bindsA (ps := ["script"]) F (fun _ _ _ _ _ _ us hl => match us, hl with | [_], _ => rfl)
  exact ⟨K, fd, spY (φ_law K), X, fun s u => b s [u] rfl, fun H a ns hl _ hS => ⟨H, [], ⟨Sub.refl H, fun p hp => (by cases hp), by simp, fun p hp => (by cases hp)⟩, a, ns, rfl, rfl, hS, hl, fun B' _ H' _ => rfl⟩, fun base _ _ => fn_law T fd F⟩

end
def d_asks : He.DefD := ⟨("asks", none), "asks", "asks", defArgs s_asks, defBody s_asks, defScope s_asks, [], []⟩
def d_place_of : He.DefD := ⟨("place_of", none), "place_of", "place_of", defArgs s_place_of, defBody s_place_of, defScope s_place_of, [], []⟩
def d_writers : He.DefD := ⟨("writers", none), "writers", "writers", defArgs s_writers, defBody s_writers, defScope s_writers, [], []⟩
def d_reading_ties : He.DefD := ⟨("reading_ties", none), "reading_ties", "reading_ties", defArgs s_reading_ties, defBody s_reading_ties, defScope s_reading_ties, [], []⟩
def d_ties : He.DefD := ⟨("ties", none), "ties", "ties", defArgs s_ties, defBody s_ties, defScope s_ties, [], []⟩
def d_behind_of : He.DefD := ⟨("behind_of", none), "behind_of", "behind_of", defArgs s_behind_of, defBody s_behind_of, defScope s_behind_of, [], []⟩
def d_ring : He.DefD := ⟨("ring", none), "ring", "ring", defArgs s_ring, defBody s_ring, defScope s_ring, [], []⟩
def d_order : He.DefD := ⟨("order", none), "order", "order", defArgs s_order, defBody s_order, defScope s_order, [], []⟩
def d_is_order : He.DefD := ⟨("is_order", none), "is_order", "is_order", defArgs s_is_order, defBody s_is_order, defScope s_is_order, [], []⟩
def d_l_cell_at : He.DefD := ⟨("_law_cell_at", none), "_law_cell_at", "_law_cell_at", defArgs s_l_cell_at, defBody s_l_cell_at, defScope s_l_cell_at, [], []⟩
def d_l_stir : He.DefD := ⟨("_law_stir", none), "_law_stir", "_law_stir", defArgs s_l_stir, defBody s_l_stir, defScope s_l_stir, [], []⟩
def d_l_well : He.DefD := ⟨("_law_well", none), "_law_well", "_law_well", defArgs s_l_well, defBody s_l_well, defScope s_l_well, [], []⟩
def d_l_draw : He.DefD := ⟨("_law_draw", none), "_law_draw", "_law_draw", defArgs s_l_draw, defBody s_l_draw, defScope s_l_draw, [], []⟩
def d_l_name : He.DefD := ⟨("_law_name", none), "_law_name", "_law_name", defArgs s_l_name, defBody s_l_name, defScope s_l_name, [], []⟩
def d_l_in_row : He.DefD := ⟨("_law_in_row", none), "_law_in_row", "_law_in_row", defArgs s_l_in_row, defBody s_l_in_row, defScope s_l_in_row, [], []⟩
def d_l_reading_next : He.DefD := ⟨("_law_reading_next", none), "_law_reading_next", "_law_reading_next", defArgs s_l_reading_next, defBody s_l_reading_next, defScope s_l_reading_next, [], []⟩
def d_l_round : He.DefD := ⟨("_law_round", none), "_law_round", "_law_round", defArgs s_l_round, defBody s_l_round, defScope s_l_round, [], []⟩
def d_l_readers : He.DefD := ⟨("_law_readers", none), "_law_readers", "_law_readers", defArgs s_l_readers, defBody s_l_readers, defScope s_l_readers, [], []⟩
def d_l_mixed : He.DefD := ⟨("_law_mixed", none), "_law_mixed", "_law_mixed", defArgs s_l_mixed, defBody s_l_mixed, defScope s_l_mixed, [], []⟩
def d_l_ordered : He.DefD := ⟨("_law_ordered", none), "_law_ordered", "_law_ordered", defArgs s_l_ordered, defBody s_l_ordered, defScope s_l_ordered, [], []⟩
def d_law : He.DefD := ⟨("law", none), "law", "law", defArgs s_law, defBody s_law, defScope s_law, [], []⟩
def fnL : List He.DefD := [d_asks, d_place_of, d_writers, d_reading_ties, d_ties, d_behind_of, d_ring, d_order, d_is_order, d_l_cell_at, d_l_stir, d_l_well, d_l_draw, d_l_name, d_l_in_row, d_l_reading_next, d_l_round, d_l_readers, d_l_mixed, d_l_ordered, d_law]
def faL : List He.Fa := [.glo "asks", .glo "place_of", .glo "writers", .glo "reading_ties", .glo "ties", .glo "behind_of", .glo "ring", .glo "order", .glo "is_order", .glo "_law_cell_at", .glo "_law_stir", .glo "_law_well", .glo "_law_draw", .glo "_law_name", .glo "_law_in_row", .glo "_law_reading_next", .glo "_law_round", .glo "_law_readers", .glo "_law_mixed", .glo "_law_ordered", .glo "law", .free "all", .free "any", .free "enumerate", .free "len", .free "list", .free "min", .free "range", .free "set", .free "sorted", .free "zip"]
abbrev R : PySem.W.OpenRow := PySem.W.OpenLaw.row PySem.Challenge.rw_slotkeep_k13_long_lists_of_dealings
abbrev hk : PySem.W.Hook := He.hookD 4 faL fnL
def ob (s : PySem.W.SharedT) : He.AlD := He.obsDG 4 faL fnL (HandSHeadRun.getT s)
theorem ob_eq (s : PySem.W.SharedT) : ob s = hk.obs s.abs := He.obsDG_eq (HandSHeadRun.getT_eq s)
def looseL : List PySem.Str := (["asks", "place_of", "writers", "reading_ties", "ties", "behind_of", "ring", "order", "is_order", "_law_cell_at", "_law_stir", "_law_well", "_law_draw", "_law_name", "_law_in_row", "_law_reading_next", "_law_round", "_law_readers", "_law_mixed", "_law_ordered"] : List PySem.Str)
theorem run (w : World) : HandSHeadRun.RunEq R (PySem.W.view R.prog [22]) hk ob 2000 looseL w := by
  intro os
  kernel_rfl
theorem tx {K : PySem.W.Frag} {h : Heap} {mg : Str → Option Value} (X : K.In h) (G : h.Ns mainGlobals mg) (c : He.SaysD faL fnL K) : Tx K mg where
  F_asks := c.def_ 0 (d := d_asks) rfl
  g_asks := He.glo_ok X G (c.fact 0 (f := .glo "asks") rfl)
  F_place_of := c.def_ 1 (d := d_place_of) rfl
  g_place_of := He.glo_ok X G (c.fact 1 (f := .glo "place_of") rfl)
  F_writers := c.def_ 2 (d := d_writers) rfl
  g_writers := He.glo_ok X G (c.fact 2 (f := .glo "writers") rfl)
  F_reading_ties := c.def_ 3 (d := d_reading_ties) rfl
  g_reading_ties := He.glo_ok X G (c.fact 3 (f := .glo "reading_ties") rfl)
  F_ties := c.def_ 4 (d := d_ties) rfl
  g_ties := He.glo_ok X G (c.fact 4 (f := .glo "ties") rfl)
  F_behind_of := c.def_ 5 (d := d_behind_of) rfl
  g_behind_of := He.glo_ok X G (c.fact 5 (f := .glo "behind_of") rfl)
  F_ring := c.def_ 6 (d := d_ring) rfl
  g_ring := He.glo_ok X G (c.fact 6 (f := .glo "ring") rfl)
  F_order := c.def_ 7 (d := d_order) rfl
  g_order := He.glo_ok X G (c.fact 7 (f := .glo "order") rfl)
  F_is_order := c.def_ 8 (d := d_is_order) rfl
  g_is_order := He.glo_ok X G (c.fact 8 (f := .glo "is_order") rfl)
  F_l_cell_at := c.def_ 9 (d := d_l_cell_at) rfl
  g_l_cell_at := He.glo_ok X G (c.fact 9 (f := .glo "_law_cell_at") rfl)
  F_l_stir := c.def_ 10 (d := d_l_stir) rfl
  g_l_stir := He.glo_ok X G (c.fact 10 (f := .glo "_law_stir") rfl)
  F_l_well := c.def_ 11 (d := d_l_well) rfl
  g_l_well := He.glo_ok X G (c.fact 11 (f := .glo "_law_well") rfl)
  F_l_draw := c.def_ 12 (d := d_l_draw) rfl
  g_l_draw := He.glo_ok X G (c.fact 12 (f := .glo "_law_draw") rfl)
  F_l_name := c.def_ 13 (d := d_l_name) rfl
  g_l_name := He.glo_ok X G (c.fact 13 (f := .glo "_law_name") rfl)
  F_l_in_row := c.def_ 14 (d := d_l_in_row) rfl
  g_l_in_row := He.glo_ok X G (c.fact 14 (f := .glo "_law_in_row") rfl)
  F_l_reading_next := c.def_ 15 (d := d_l_reading_next) rfl
  g_l_reading_next := He.glo_ok X G (c.fact 15 (f := .glo "_law_reading_next") rfl)
  F_l_round := c.def_ 16 (d := d_l_round) rfl
  g_l_round := He.glo_ok X G (c.fact 16 (f := .glo "_law_round") rfl)
  F_l_readers := c.def_ 17 (d := d_l_readers) rfl
  g_l_readers := He.glo_ok X G (c.fact 17 (f := .glo "_law_readers") rfl)
  F_l_mixed := c.def_ 18 (d := d_l_mixed) rfl
  g_l_mixed := He.glo_ok X G (c.fact 18 (f := .glo "_law_mixed") rfl)
  F_l_ordered := c.def_ 19 (d := d_l_ordered) rfl
  g_l_ordered := He.glo_ok X G (c.fact 19 (f := .glo "_law_ordered") rfl)
  F_law := c.def_ 20 (d := d_law) rfl
  g_law := He.glo_ok X G (c.fact 20 (f := .glo "law") rfl)
  n_all := He.free_ok X G (c.fact 21 (f := .free "all") rfl)
  n_any := He.free_ok X G (c.fact 22 (f := .free "any") rfl)
  n_enumerate := He.free_ok X G (c.fact 23 (f := .free "enumerate") rfl)
  n_len := He.free_ok X G (c.fact 24 (f := .free "len") rfl)
  n_list := He.free_ok X G (c.fact 25 (f := .free "list") rfl)
  n_min := He.free_ok X G (c.fact 26 (f := .free "min") rfl)
  n_range := He.free_ok X G (c.fact 27 (f := .free "range") rfl)
  n_set := He.free_ok X G (c.fact 28 (f := .free "set") rfl)
  n_sorted := He.free_ok X G (c.fact 29 (f := .free "sorted") rfl)
  n_zip := He.free_ok X G (c.fact 30 (f := .free "zip") rfl)
end K13
open PySem PySem.W PySem.Calls PyProof.Rows
theorem PySem.Challenge.cw_slotkeep_k13_long_lists_of_dealings_holds : PySem.Challenge.rw_slotkeep_k13_long_lists_of_dealings.Holds := by
  w_on; o_law
  refine HandSHeadRun.head_any (r := OpenLaw.row PySem.Challenge.rw_slotkeep_k13_long_lists_of_dealings) (q := view (OpenLaw.row PySem.Challenge.rw_slotkeep_k13_long_lists_of_dealings).prog [22]) (H := K13.hk) (ob := K13.ob) (M := 2000) (loose := K13.looseL) (d := HandSHeadRun.topDef (OpenLaw.row PySem.Challenge.rw_slotkeep_k13_long_lists_of_dealings).prog 22) (kwd := []) K13.ob_eq
    (by kernel_rfl) (fun s => by kernel_rfl) K13.run (by kernel_rfl) (by kernel_rfl) (by kernel_rfl) (by rfl) (by first | assumption | decide +kernel) (by decide +kernel) ⟨rfl, rfl, rfl, rfl, rfl, by decide +kernel⟩ ?hw ?hc
  case hw => w_witness2
  case hc =>
    refine L2.walk_ofE (l := PySem.Challenge.rw_slotkeep_k13_long_lists_of_dealings) (n := 63) (k := 8) (x := "script") (CX := L2.CX0) rfl (by decide) (by kernel_rfl) ⟨rfl, by decide, by decide⟩ ?F (fun _ _ _ _ z => z)
    intro w mg fa h Y G hmg0
    obtain ⟨K, KX, c⟩ := Y
    have hmg : mg ("law" : PySem.Str) = some (.ref fa) := by
      have e : (HandSHeadRun.topDef (OpenLaw.row PySem.Challenge.rw_slotkeep_k13_long_lists_of_dealings).prog 22).name = ("law" : PySem.Str) := by kernel_rfl
      rw [← e]
      exact hmg0
    exact K13.fin (P := (PySem.Challenge.rw_slotkeep_k13_long_lists_of_dealings).prog) (w := w) KX G hmg (K13.tx KX G c)
