import PyProof.Rows.All
import Wide.All
import OpenK.AllK
import Wide.FinOn
import KE.KStateDown
import HandS.ForMost
import HandS.Exc
import HandS.TryOnly
import HandS.ExcOwn
import HandS.WordsExc
import HandS.More
import HandS.Defaults
import HandS.Flow
import HandS.Head0
import HandS.Head1
import HandS.Head2
import HandS.HeadEnd
import HandS.HeadHook1
import HandS.HeadHook2
import HandS.Conv
import HandS.SetKeys
import HandS.Strs
import HandS.Set
import HandS.SetFor
import HandS.SortKw
import KE.DataMinMax
import HandS.Wide
import PySem.Challenge.RW_staywalk_k48_two_houses
set_option Elab.async false
set_option linter.all false
set_option maxRecDepth 100000
set_option maxHeartbeats 4000000
namespace SW
open PySem L2
/-! ### owned cells: the heap as a list of chunks -/
/-- what may change: its cell has one owner -/
def Mu : HO → Bool
  | .lst _ => true
  | .dK _ => true
  | .dT _ => true
  | .set _ _ => true
  | .ins _ _ _ => true
  | .frz _ (.dK _) => true
  | .frz _ (.dT _) => true
  | _ => false
/-- what never changes stays -/
def Keep (H H' : Hp) : Prop := ∀ b o, H b = some o → Mu o = false → H' b = some o
def Stable (φ : Hp → Prop) : Prop := ∀ H H', Keep H H' → φ H → φ H'
/-- an owned cell; a fact that lasts -/
inductive Ce where
  | m (a : Addr) (o : HO)
  | p (φ : Hp → Prop)
def Ce.ok (H : Hp) : Ce → Prop
  | .m a o => H a = some o ∧ Mu o = true
  | .p φ => φ H ∧ Stable φ
def Ce.ad : Ce → Option Addr
  | .m a _ => some a
  | .p _ => none
def ads (l : List Ce) : List Addr := l.filterMap Ce.ad
structure Own (H : Hp) (L : List (List Ce)) : Prop where
  ok : ∀ c ∈ L.flatten, c.ok H
  nd : (ads L.flatten).Nodup
abbrev tp (a : Addr) (vs : List V) : Ce := .p fun H => H a = some (.tup vs)
abbrev pu (P : Prop) : Ce := .p fun _ => P
theorem st_tp {a : Addr} {vs : List V} : Stable fun H => H a = some (.tup vs) := fun _ _ k h => k a _ h rfl
theorem st_pu {P : Prop} : Stable fun _ => P := fun _ _ _ h => h
section
variable {H H' : Hp} {L R : List (List Ce)} {x y z u v w : List Ce} {c c' : Ce} {a b : Addr} {o o' : HO} {i j : Nat}
theorem ads_app (x y : List Ce) : ads (x ++ y) = ads x ++ ads y := List.filterMap_append
theorem mem_ads {l : List Ce} (h : Ce.m a o ∈ l) : a ∈ ads l := List.mem_filterMap.mpr ⟨_, h, rfl⟩
theorem of_ads {l : List Ce} (h : a ∈ ads l) : ∃ o, Ce.m a o ∈ l := by
  obtain ⟨c, hc, e⟩ := List.mem_filterMap.mp h
  cases c with
  | m b o =>
    have : b = a := Option.some.inj e
    subst this
    exact ⟨o, hc⟩
  | p φ => cases e
theorem Own.perm (O : Own H L) (h : L.flatten.Perm R.flatten) : Own H R :=
  ⟨fun c hc => O.ok c (h.mem_iff.mpr hc), (h.filterMap Ce.ad).nodup_iff.mp O.nd⟩
theorem permQ {l r : List Ce} (h : ∀ c, @List.count Ce (@instBEqOfDecidableEq _ (Classical.typeDecidableEq _)) c l = @List.count Ce (@instBEqOfDecidableEq _ (Classical.typeDecidableEq _)) c r) : l.Perm r :=
  letI := Classical.typeDecidableEq Ce
  List.perm_iff_count.mpr h
theorem Own.sub (O : Own H L) (h : R.flatten.Sublist L.flatten) : Own H R :=
  ⟨fun c hc => O.ok c (h.subset hc), (h.filterMap Ce.ad).nodup O.nd⟩
theorem Own.mem (O : Own H L) (h : Ce.m a o ∈ L.flatten) : H a = some o := (O.ok _ h).1
theorem Own.memP {φ : Hp → Prop} (O : Own H L) (h : Ce.p φ ∈ L.flatten) : φ H := (O.ok _ h).1
theorem Own.at (O : Own H L) (i j : Nat) (h : (L[i]?.bind fun l => l[j]?) = some (.m a o)) : H a = some o := by
  cases e : L[i]? with
  | none => rw [e] at h; cases h
  | some l =>
    rw [e] at h
    have h : l[j]? = some (.m a o) := h
    exact O.mem (List.mem_flatten.mpr ⟨l, List.mem_of_getElem? e, List.mem_of_getElem? h⟩)
theorem Own.fact {φ : Hp → Prop} (O : Own H L) (i j : Nat) (h : (L[i]?.bind fun l => l[j]?) = some (.p φ)) : φ H := by
  cases e : L[i]? with
  | none => rw [e] at h; cases h
  | some l =>
    rw [e] at h
    have h : l[j]? = some (.p φ) := h
    exact O.memP (List.mem_flatten.mpr ⟨l, List.mem_of_getElem? e, List.mem_of_getElem? h⟩)
theorem keep_new (h : H a = none) : Keep H (upd H a o) := fun b u e _ => by rw [upd_ne (ne_of_none e h)]; exact e
theorem keep_set (h : H a = some o) (m : Mu o = true) : Keep H (upd H a o') := fun b u e n => by
  rw [upd_ne fun z => by rw [z, h] at e; cases e; rw [m] at n; cases n]
  exact e
theorem Ce.ok_keep (k : Keep H H') (h : c.ok H) (hm : ∀ b u, c = .m b u → H' b = some u) : c.ok H' := by
  cases c with
  | m b u => exact ⟨hm b u rfl, h.2⟩
  | p φ => exact ⟨h.2 _ _ k h.1, h.2⟩
theorem Own.fresh (O : Own H L) (h : H a = none) : a ∉ ads L.flatten := fun z => by
  obtain ⟨o, hm⟩ := of_ads z
  rw [O.mem hm] at h
  cases h
/-- a new object -/
theorem Own.new (O : Own H L) (h : H a = none) (m : Mu o = true := by rfl) : Own (upd H a o) ([.m a o] :: L) := by
  refine ⟨fun c hc => ?_, ?_⟩
  · rcases List.mem_append.mp (show c ∈ [Ce.m a o] ++ L.flatten from hc) with hc | hc
    · rw [List.mem_singleton.mp hc]
      exact ⟨upd_same, m⟩
    · exact Ce.ok_keep (k := keep_new h) (O.ok c hc) fun b u e => by
        subst e
        have q := (O.ok _ hc).1
        rw [upd_ne (ne_of_none q h)]
        exact q
  · show (a :: ads L.flatten).Nodup
    exact List.nodup_cons.mpr ⟨O.fresh h, O.nd⟩
/-- a new tuple -/
theorem Own.newT {vs : List V} (O : Own H L) (h : H a = none) : Own (upd H a (.tup vs)) ([tp a vs] :: L) := by
  refine ⟨fun c hc => ?_, O.nd⟩
  rcases List.mem_append.mp (show c ∈ [tp a vs] ++ L.flatten from hc) with hc | hc
  · rw [List.mem_singleton.mp hc]
    exact ⟨upd_same, st_tp⟩
  · exact Ce.ok_keep (k := keep_new h) (O.ok c hc) fun b u e => by
      subst e
      have q := (O.ok _ hc).1
      rw [upd_ne (ne_of_none q h)]
      exact q
theorem Own.addP {φ : Hp → Prop} (O : Own H L) (s : Stable φ) (h : φ H) : Own H ([.p φ] :: L) :=
  ⟨fun c hc => by
    rcases List.mem_append.mp (show c ∈ [Ce.p φ] ++ L.flatten from hc) with hc | hc
    · rw [List.mem_singleton.mp hc]
      exact ⟨h, s⟩
    · exact O.ok c hc, O.nd⟩
theorem Own.addU {P : Prop} (O : Own H L) (h : P) : Own H ([pu P] :: L) := O.addP st_pu h
/-- the first cell is changed -/
theorem Own.set0 (O : Own H ((.m a o :: x) :: R)) (m : Mu o' = true := by rfl) : Own (upd H a o') ((.m a o' :: x) :: R) := by
  have h0 := O.ok (.m a o) List.mem_cons_self
  have nd := O.nd
  have nd : (a :: ads (x ++ R.flatten)).Nodup := nd
  refine ⟨fun c hc => ?_, nd⟩
  rcases List.mem_cons.mp (show c ∈ .m a o' :: (x ++ R.flatten) from hc) with e | hc
  · rw [e]
    exact ⟨upd_same, m⟩
  · have q := O.ok c (List.mem_cons_of_mem _ hc)
    exact Ce.ok_keep (k := keep_set h0.1 h0.2) q fun b u e => by
      subst e
      have ne : b ≠ a := fun z => (List.nodup_cons.mp nd).1 (z ▸ mem_ads hc)
      rw [upd_ne ne]
      exact q.1
theorem Own.drop (O : Own H (x :: R)) : Own H R := O.sub (List.sublist_append_right x R.flatten)
theorem Own.drop1 (O : Own H (x :: y :: R)) : Own H (x :: R) := O.sub (by
  show (x ++ R.flatten).Sublist (x ++ (y ++ R.flatten))
  exact List.Sublist.append_left (List.sublist_append_right _ _) _)
theorem Own.f1 (O : Own H (x :: y :: R)) : Own H (y :: x :: R) := O.perm (by
  show (x ++ (y ++ R.flatten)).Perm (y ++ (x ++ R.flatten))
  exact List.perm_append_comm_assoc _ _ _)
theorem Own.under (h : ∀ {H}, Own H (L) → Own H (R)) (O : Own H (x :: L)) (hp : L.flatten.Perm R.flatten) : Own H (x :: R) := O.perm (by
  show (x ++ L.flatten).Perm (x ++ R.flatten)
  exact hp.append_left _)
theorem perm1 (x y : List Ce) (R : List (List Ce)) : (x :: y :: R).flatten.Perm (y :: x :: R).flatten := List.perm_append_comm_assoc _ _ _
theorem permC (x : List Ce) {L R : List (List Ce)} (h : L.flatten.Perm R.flatten) : (x :: L).flatten.Perm (x :: R).flatten := h.append_left _
theorem Own.f2 (O : Own H (x :: y :: z :: R)) : Own H (z :: x :: y :: R) := O.perm ((permC x (perm1 y z R)).trans (perm1 x z _))
theorem Own.f3 (O : Own H (x :: y :: z :: u :: R)) : Own H (u :: x :: y :: z :: R) := O.perm ((permC x ((permC y (perm1 z u R)).trans (perm1 y u _))).trans (perm1 x u _))
theorem Own.f4 (O : Own H (x :: y :: z :: u :: v :: R)) : Own H (v :: x :: y :: z :: u :: R) :=
  O.perm ((permC x ((permC y ((permC z (perm1 u v R)).trans (perm1 z v _))).trans (perm1 y v _))).trans (perm1 x v _))
theorem Own.f5 (O : Own H (x :: y :: z :: u :: v :: w :: R)) : Own H (w :: x :: y :: z :: u :: v :: R) :=
  O.perm ((permC x ((permC y ((permC z ((permC u (perm1 v w R)).trans (perm1 u w _))).trans (perm1 z w _))).trans (perm1 y w _))).trans (perm1 x w _))
/-- the first chunk goes in at place 1, 2, .. -/
theorem Own.g2 (O : Own H (z :: x :: y :: R)) : Own H (x :: y :: z :: R) := O.perm ((perm1 z x _).trans (permC x (perm1 z y R)))
theorem Own.g3 (O : Own H (u :: x :: y :: z :: R)) : Own H (x :: y :: z :: u :: R) := O.perm ((perm1 u x _).trans (permC x ((perm1 u y _).trans (permC y (perm1 u z R)))))
theorem Own.g4 (O : Own H (v :: x :: y :: z :: u :: R)) : Own H (x :: y :: z :: u :: v :: R) := O.perm ((perm1 v x _).trans (permC x ((perm1 v y _).trans (permC y ((perm1 v z _).trans (permC z (perm1 v u R)))))))
theorem Own.split (O : Own H ((x ++ y) :: R)) : Own H (x :: y :: R) := O.perm (by
  show ((x ++ y) ++ R.flatten).Perm (x ++ (y ++ R.flatten))
  rw [List.append_assoc])
theorem Own.join (O : Own H (x :: y :: R)) : Own H ((x ++ y) :: R) := O.perm (by
  show (x ++ (y ++ R.flatten)).Perm ((x ++ y) ++ R.flatten)
  rw [List.append_assoc])
theorem Own.splitC (O : Own H ((c :: x) :: R)) : Own H ([c] :: x :: R) := O.split (x := [c])
theorem Own.joinC (O : Own H ([c] :: x :: R)) : Own H ((c :: x) :: R) := O.join (x := [c])
theorem Own.nil (O : Own H ([] :: R)) : Own H R := ⟨O.ok, O.nd⟩
theorem Own.addNil (O : Own H R) : Own H ([] :: R) := ⟨O.ok, O.nd⟩
/-- the j-th cell of the first chunk is taken out, another is put in -/
theorem perm_out : ∀ {l : List Ce} {j : Nat} {c : Ce}, l[j]? = some c → l.Perm (c :: l.eraseIdx j)
  | [], j, c, h => by simp at h
  | d :: l, 0, c, h => by
    have e : d = c := Option.some.inj h
    subst e
    exact .refl _
  | d :: l, j + 1, c, h => ((perm_out (l := l) (j := j) (c := c) h).cons d).trans (.swap _ _ _)
theorem perm_in {l : List Ce} (hj : j < l.length) : (c' :: l.eraseIdx j).Perm (l.set j c') := by
  have h : (l.set j c')[j]? = some c' := by rw [List.getElem?_set_self hj]
  have p := perm_out h
  rw [List.eraseIdx_set_eq] at p
  exact p.symm
theorem Own.out (O : Own H (x :: R)) (j : Nat) (h : x[j]? = some c) : Own H ([c] :: x.eraseIdx j :: R) := O.perm (by
  show (x ++ R.flatten).Perm (c :: (x.eraseIdx j ++ R.flatten))
  exact (perm_out h).append_right _)
theorem Own.put (O : Own H ([c'] :: x.eraseIdx j :: R)) (hj : j < x.length) : Own H (x.set j c' :: R) := O.perm (by
  show (c' :: (x.eraseIdx j ++ R.flatten)).Perm (x.set j c' ++ R.flatten)
  exact (perm_in hj).append_right _)
theorem Own.ne (O : Own H ((.m a o :: x) :: R)) (h : Ce.m b o' ∈ x ++ R.flatten) : b ≠ a := fun z =>
  (List.nodup_cons.mp (show (a :: ads (x ++ R.flatten)).Nodup from O.nd)).1 (z ▸ mem_ads h)
theorem Own.tup {vs : List V} (O : Own H L) (i j : Nat) (h : (L[i]?.bind fun l => l[j]?) = some (tp a vs)) : H a = some (.tup vs) := O.fact i j h
/-! ### a heap that was changed, under a name of its own -/
theorem Own.gen (O : Own H L) (h : H a = none) (e : upd H a o = H') (m : Mu o = true := by rfl) : Own H' ([.m a o] :: L) := e ▸ O.new h m
theorem Own.genT {vs : List V} (O : Own H L) (h : H a = none) (e : upd H a (.tup vs) = H') : Own H' ([tp a vs] :: L) := e ▸ O.newT h
theorem Own.genS (O : Own H ((.m a o :: x) :: R)) (e : upd H a o' = H') (m : Mu o' = true := by rfl) : Own H' ((.m a o' :: x) :: R) := e ▸ O.set0 m
theorem Own.same (O : Own H L) (h : H a = none) : Own (upd H a o) L :=
  ⟨fun c hc => Ce.ok_keep (k := keep_new h) (O.ok c hc) fun b u e => by
    subst e
    have q := (O.ok _ hc).1
    rw [upd_ne (ne_of_none q h)]
    exact q, O.nd⟩
/-- a new instance and its dict -/
theorem Own.genM {C dx : Addr} (O : Own H L) (ha : H a = none) (hd : H dx = none) (ne : dx ≠ a) (e : upd (upd H dx (.own a)) a (.ins C dx []) = H') : Own H' ([.m a (.ins C dx [])] :: L) :=
  e ▸ (O.same hd).new (by rw [upd_ne ne.symm]; exact ha)
end
end SW
namespace SW
open PySem L2
/-! ### the places of the defs -/
def top (i : Nat) : Stmt := PySem.Challenge.pw_staywalk_k48_two_houses.main.body.getD i (.Pass ⟨0, 0, 0, 0⟩)
abbrev s_NoKey___init__ : Stmt := inClass (top 3) 0
abbrev s_Twice___init__ : Stmt := inClass (top 4) 0
abbrev s_TooOld___init__ : Stmt := inClass (top 5) 0
abbrev s_NoMoment___init__ : Stmt := inClass (top 6) 0
abbrev s_Leaves___init__ : Stmt := inClass (top 10) 0
abbrev s_Leaves_leaf_at : Stmt := inClass (top 10) 1
abbrev s_Leaves_has : Stmt := inClass (top 10) 2
abbrev s_Leaves_many : Stmt := inClass (top 10) 3
abbrev s_Leaves_add : Stmt := inClass (top 10) 4
abbrev s_Leaves_discard : Stmt := inClass (top 10) 5
abbrev s_Leaves_join_at : Stmt := inClass (top 10) 6
abbrev s_needed : Stmt := top 12
abbrev s_Makes___init__ : Stmt := inClass (top 13) 0
abbrev s_Makes_add : Stmt := inClass (top 13) 1
abbrev s_Makes_made : Stmt := inClass (top 13) 2
abbrev s_Makes_value_at : Stmt := inClass (top 13) 3
abbrev s_Makes_thrown : Stmt := inClass (top 13) 5
abbrev s_mark_of : Stmt := top 16
abbrev s_slot_of : Stmt := top 17
abbrev s_Bank___init__ : Stmt := inClass (top 21) 0
abbrev s_Bank_lot_of : Stmt := inClass (top 21) 1
abbrev s_Slots___init__ : Stmt := inClass (top 22) 0
abbrev s_Slots_banks : Stmt := inClass (top 22) 1
abbrev s_Slots_home : Stmt := inClass (top 22) 2
abbrev s_Slots_move_next : Stmt := inClass (top 22) 3
abbrev s_Slots_begin_row : Stmt := inClass (top 22) 4
abbrev s_Slots_put : Stmt := inClass (top 22) 5
abbrev s_Slots_sure : Stmt := inClass (top 22) 6
abbrev s_Slots_drop : Stmt := inClass (top 22) 7
abbrev s_Slots_get : Stmt := inClass (top 22) 8
abbrev s_Slots_has : Stmt := inClass (top 22) 9
abbrev s_Slots_many : Stmt := inClass (top 22) 10
abbrev s_Slots_rows : Stmt := inClass (top 22) 11
abbrev s_Slots_moved : Stmt := inClass (top 22) 12
abbrev s_House___init__ : Stmt := inClass (top 24) 0
abbrev s_House_done : Stmt := inClass (top 24) 1
abbrev s_House_put : Stmt := inClass (top 24) 2
abbrev s_House_drop : Stmt := inClass (top 24) 3
abbrev s_House_get : Stmt := inClass (top 24) 4
abbrev s_House_has : Stmt := inClass (top 24) 5
abbrev s_House_many : Stmt := inClass (top 24) 6
abbrev s_House_lay_mark : Stmt := inClass (top 24) 7
abbrev s_House_diary : Stmt := inClass (top 24) 8
abbrev s_House_makes : Stmt := inClass (top 24) 9
abbrev s_House_hold : Stmt := inClass (top 24) 10
abbrev s_House_let_go : Stmt := inClass (top 24) 11
abbrev s_House_held : Stmt := inClass (top 24) 12
abbrev s_House_sweep : Stmt := inClass (top 24) 13
abbrev s_House_ask_moment : Stmt := inClass (top 24) 14
abbrev s_House_was : Stmt := inClass (top 24) 15
abbrev s__law_cell_at : Stmt := top 26
abbrev s__law_digit : Stmt := top 27
abbrev s__law_begun : Stmt := top 28
abbrev s__law_last : Stmt := top 29
abbrev s__law_changed : Stmt := top 30
abbrev s__law_swept : Stmt := top 31
abbrev s__law_deed : Stmt := top 32
abbrev s__law_right : Stmt := top 33
abbrev s_law : Stmt := top 34
/-! ### what the head tells -/
def ds_Leaves___init__ : He.DefD := ⟨("Leaves", some "__init__"), "__init__", "Leaves.__init__", defArgs s_Leaves___init__, defBody s_Leaves___init__, defScope s_Leaves___init__, [], []⟩
def ds_Leaves_leaf_at : He.DefD := ⟨("Leaves", some "leaf_at"), "leaf_at", "Leaves.leaf_at", defArgs s_Leaves_leaf_at, defBody s_Leaves_leaf_at, defScope s_Leaves_leaf_at, [], []⟩
def ds_Leaves_has : He.DefD := ⟨("Leaves", some "has"), "has", "Leaves.has", defArgs s_Leaves_has, defBody s_Leaves_has, defScope s_Leaves_has, [], []⟩
def ds_Leaves_many : He.DefD := ⟨("Leaves", some "many"), "many", "Leaves.many", defArgs s_Leaves_many, defBody s_Leaves_many, defScope s_Leaves_many, [], []⟩
def ds_Leaves_add : He.DefD := ⟨("Leaves", some "add"), "add", "Leaves.add", defArgs s_Leaves_add, defBody s_Leaves_add, defScope s_Leaves_add, [], []⟩
def ds_Leaves_discard : He.DefD := ⟨("Leaves", some "discard"), "discard", "Leaves.discard", defArgs s_Leaves_discard, defBody s_Leaves_discard, defScope s_Leaves_discard, [], []⟩
def ds_Leaves_join_at : He.DefD := ⟨("Leaves", some "join_at"), "join_at", "Leaves.join_at", defArgs s_Leaves_join_at, defBody s_Leaves_join_at, defScope s_Leaves_join_at, [], []⟩
def ds_needed : He.DefD := ⟨("needed", none), "needed", "needed", defArgs s_needed, defBody s_needed, defScope s_needed, [], []⟩
def ds_Makes___init__ : He.DefD := ⟨("Makes", some "__init__"), "__init__", "Makes.__init__", defArgs s_Makes___init__, defBody s_Makes___init__, defScope s_Makes___init__, [], []⟩
def ds_Makes_add : He.DefD := ⟨("Makes", some "add"), "add", "Makes.add", defArgs s_Makes_add, defBody s_Makes_add, defScope s_Makes_add, [], []⟩
def ds_Makes_made : He.DefD := ⟨("Makes", some "made"), "made", "Makes.made", defArgs s_Makes_made, defBody s_Makes_made, defScope s_Makes_made, [], []⟩
def ds_Makes_value_at : He.DefD := ⟨("Makes", some "value_at"), "value_at", "Makes.value_at", defArgs s_Makes_value_at, defBody s_Makes_value_at, defScope s_Makes_value_at, [], []⟩
def ds_Makes_thrown : He.DefD := ⟨("Makes", some "thrown"), "thrown", "Makes.thrown", defArgs s_Makes_thrown, defBody s_Makes_thrown, defScope s_Makes_thrown, [], []⟩
def ds_mark_of : He.DefD := ⟨("mark_of", none), "mark_of", "mark_of", defArgs s_mark_of, defBody s_mark_of, defScope s_mark_of, [], []⟩
def ds_slot_of : He.DefD := ⟨("slot_of", none), "slot_of", "slot_of", defArgs s_slot_of, defBody s_slot_of, defScope s_slot_of, [], []⟩
def ds_Bank___init__ : He.DefD := ⟨("Bank", some "__init__"), "__init__", "Bank.__init__", defArgs s_Bank___init__, defBody s_Bank___init__, defScope s_Bank___init__, [], []⟩
def ds_Bank_lot_of : He.DefD := ⟨("Bank", some "lot_of"), "lot_of", "Bank.lot_of", defArgs s_Bank_lot_of, defBody s_Bank_lot_of, defScope s_Bank_lot_of, [], []⟩
def ds_Slots___init__ : He.DefD := ⟨("Slots", some "__init__"), "__init__", "Slots.__init__", defArgs s_Slots___init__, defBody s_Slots___init__, defScope s_Slots___init__, [], []⟩
def ds_Slots_banks : He.DefD := ⟨("Slots", some "banks"), "banks", "Slots.banks", defArgs s_Slots_banks, defBody s_Slots_banks, defScope s_Slots_banks, [], []⟩
def ds_Slots_home : He.DefD := ⟨("Slots", some "home"), "home", "Slots.home", defArgs s_Slots_home, defBody s_Slots_home, defScope s_Slots_home, [], []⟩
def ds_Slots_move_next : He.DefD := ⟨("Slots", some "move_next"), "move_next", "Slots.move_next", defArgs s_Slots_move_next, defBody s_Slots_move_next, defScope s_Slots_move_next, [], []⟩
def ds_Slots_begin_row : He.DefD := ⟨("Slots", some "begin_row"), "begin_row", "Slots.begin_row", defArgs s_Slots_begin_row, defBody s_Slots_begin_row, defScope s_Slots_begin_row, [], []⟩
def ds_Slots_put : He.DefD := ⟨("Slots", some "put"), "put", "Slots.put", defArgs s_Slots_put, defBody s_Slots_put, defScope s_Slots_put, [], []⟩
def ds_Slots_sure : He.DefD := ⟨("Slots", some "sure"), "sure", "Slots.sure", defArgs s_Slots_sure, defBody s_Slots_sure, defScope s_Slots_sure, [], []⟩
def ds_Slots_drop : He.DefD := ⟨("Slots", some "drop"), "drop", "Slots.drop", defArgs s_Slots_drop, defBody s_Slots_drop, defScope s_Slots_drop, [], []⟩
def ds_Slots_get : He.DefD := ⟨("Slots", some "get"), "get", "Slots.get", defArgs s_Slots_get, defBody s_Slots_get, defScope s_Slots_get, [], []⟩
def ds_Slots_has : He.DefD := ⟨("Slots", some "has"), "has", "Slots.has", defArgs s_Slots_has, defBody s_Slots_has, defScope s_Slots_has, [], []⟩
def ds_Slots_many : He.DefD := ⟨("Slots", some "many"), "many", "Slots.many", defArgs s_Slots_many, defBody s_Slots_many, defScope s_Slots_many, [], []⟩
def ds_Slots_rows : He.DefD := ⟨("Slots", some "rows"), "rows", "Slots.rows", defArgs s_Slots_rows, defBody s_Slots_rows, defScope s_Slots_rows, [], []⟩
def ds_Slots_moved : He.DefD := ⟨("Slots", some "moved"), "moved", "Slots.moved", defArgs s_Slots_moved, defBody s_Slots_moved, defScope s_Slots_moved, [], []⟩
def ds_House___init__ : He.DefD := ⟨("House", some "__init__"), "__init__", "House.__init__", defArgs s_House___init__, defBody s_House___init__, defScope s_House___init__, [], []⟩
def ds_House_done : He.DefD := ⟨("House", some "done"), "done", "House.done", defArgs s_House_done, defBody s_House_done, defScope s_House_done, [], []⟩
def ds_House_put : He.DefD := ⟨("House", some "put"), "put", "House.put", defArgs s_House_put, defBody s_House_put, defScope s_House_put, [], []⟩
def ds_House_drop : He.DefD := ⟨("House", some "drop"), "drop", "House.drop", defArgs s_House_drop, defBody s_House_drop, defScope s_House_drop, [], []⟩
def ds_House_get : He.DefD := ⟨("House", some "get"), "get", "House.get", defArgs s_House_get, defBody s_House_get, defScope s_House_get, [], []⟩
def ds_House_has : He.DefD := ⟨("House", some "has"), "has", "House.has", defArgs s_House_has, defBody s_House_has, defScope s_House_has, [], []⟩
def ds_House_many : He.DefD := ⟨("House", some "many"), "many", "House.many", defArgs s_House_many, defBody s_House_many, defScope s_House_many, [], []⟩
def ds_House_lay_mark : He.DefD := ⟨("House", some "lay_mark"), "lay_mark", "House.lay_mark", defArgs s_House_lay_mark, defBody s_House_lay_mark, defScope s_House_lay_mark, [], []⟩
def ds_House_diary : He.DefD := ⟨("House", some "diary"), "diary", "House.diary", defArgs s_House_diary, defBody s_House_diary, defScope s_House_diary, [.int 0], []⟩
def ds_House_makes : He.DefD := ⟨("House", some "makes"), "makes", "House.makes", defArgs s_House_makes, defBody s_House_makes, defScope s_House_makes, [], []⟩
def ds_House_hold : He.DefD := ⟨("House", some "hold"), "hold", "House.hold", defArgs s_House_hold, defBody s_House_hold, defScope s_House_hold, [], []⟩
def ds_House_let_go : He.DefD := ⟨("House", some "let_go"), "let_go", "House.let_go", defArgs s_House_let_go, defBody s_House_let_go, defScope s_House_let_go, [], []⟩
def ds_House_held : He.DefD := ⟨("House", some "held"), "held", "House.held", defArgs s_House_held, defBody s_House_held, defScope s_House_held, [], []⟩
def ds_House_sweep : He.DefD := ⟨("House", some "sweep"), "sweep", "House.sweep", defArgs s_House_sweep, defBody s_House_sweep, defScope s_House_sweep, [], []⟩
def ds_House_ask_moment : He.DefD := ⟨("House", some "ask_moment"), "ask_moment", "House.ask_moment", defArgs s_House_ask_moment, defBody s_House_ask_moment, defScope s_House_ask_moment, [], []⟩
def ds_House_was : He.DefD := ⟨("House", some "was"), "was", "House.was", defArgs s_House_was, defBody s_House_was, defScope s_House_was, [], []⟩
def ds__law_cell_at : He.DefD := ⟨("_law_cell_at", none), "_law_cell_at", "_law_cell_at", defArgs s__law_cell_at, defBody s__law_cell_at, defScope s__law_cell_at, [], []⟩
def ds__law_digit : He.DefD := ⟨("_law_digit", none), "_law_digit", "_law_digit", defArgs s__law_digit, defBody s__law_digit, defScope s__law_digit, [], []⟩
def ds__law_begun : He.DefD := ⟨("_law_begun", none), "_law_begun", "_law_begun", defArgs s__law_begun, defBody s__law_begun, defScope s__law_begun, [], []⟩
def ds__law_last : He.DefD := ⟨("_law_last", none), "_law_last", "_law_last", defArgs s__law_last, defBody s__law_last, defScope s__law_last, [], []⟩
def ds__law_changed : He.DefD := ⟨("_law_changed", none), "_law_changed", "_law_changed", defArgs s__law_changed, defBody s__law_changed, defScope s__law_changed, [], []⟩
def ds__law_swept : He.DefD := ⟨("_law_swept", none), "_law_swept", "_law_swept", defArgs s__law_swept, defBody s__law_swept, defScope s__law_swept, [], []⟩
def ds__law_deed : He.DefD := ⟨("_law_deed", none), "_law_deed", "_law_deed", defArgs s__law_deed, defBody s__law_deed, defScope s__law_deed, [], []⟩
def ds__law_right : He.DefD := ⟨("_law_right", none), "_law_right", "_law_right", defArgs s__law_right, defBody s__law_right, defScope s__law_right, [], []⟩
def ds_law : He.DefD := ⟨("law", none), "law", "law", defArgs s_law, defBody s_law, defScope s_law, [], []⟩
def fnL : List He.DefD := [ds_Leaves___init__, ds_Leaves_leaf_at, ds_Leaves_has, ds_Leaves_many, ds_Leaves_add, ds_Leaves_discard, ds_Leaves_join_at, ds_needed, ds_Makes___init__, ds_Makes_add, ds_Makes_made, ds_Makes_value_at, ds_Makes_thrown, ds_mark_of, ds_slot_of, ds_Bank___init__, ds_Bank_lot_of, ds_Slots___init__, ds_Slots_banks, ds_Slots_home, ds_Slots_move_next, ds_Slots_begin_row, ds_Slots_put, ds_Slots_sure, ds_Slots_drop, ds_Slots_get, ds_Slots_has, ds_Slots_many, ds_Slots_rows, ds_Slots_moved, ds_House___init__, ds_House_done, ds_House_put, ds_House_drop, ds_House_get, ds_House_has, ds_House_many, ds_House_lay_mark, ds_House_diary, ds_House_makes, ds_House_hold, ds_House_let_go, ds_House_held, ds_House_sweep, ds_House_ask_moment, ds_House_was, ds__law_cell_at, ds__law_digit, ds__law_begun, ds__law_last, ds__law_changed, ds__law_swept, ds__law_deed, ds__law_right, ds_law]
def faL : List He.Fa := [.free "len", .free "list", .free "min", .free "range", .free "set", .free "sorted", .free "sum", .int "MOST_KEYS" 8, .int "LEAST_OF_TWO" 5, .int "PLACES" 65536, .int "LEAST_SIZE" 4, .int "MOST_SIZE" 256, .glo "needed", .glo "mark_of", .glo "slot_of", .glo "_law_cell_at", .glo "_law_digit", .glo "_law_begun", .glo "_law_last", .glo "_law_changed", .glo "_law_swept", .glo "_law_deed", .glo "_law_right", .glo "law", .glo "WalkError", .glo "NoKey", .glo "Twice", .glo "TooOld", .glo "NoMoment", .glo "Leaves", .cls "Leaves", .mkr "Leaves", .noat "Leaves" "parted", .meth "Leaves" "leaf_at", .meth "Leaves" "has", .meth "Leaves" "many", .meth "Leaves" "add", .meth "Leaves" "discard", .meth "Leaves" "join_at", .glo "Makes", .cls "Makes", .mkr "Makes", .noat "Makes" "by_key", .meth "Makes" "add", .meth "Makes" "made", .meth "Makes" "value_at", .meth "Makes" "thrown", .glo "Bank", .cls "Bank", .mkr "Bank", .noat "Bank" "size", .noat "Bank" "lots", .meth "Bank" "lot_of", .glo "Slots", .cls "Slots", .mkr "Slots", .noat "Slots" "old", .noat "Slots" "young", .noat "Slots" "shifted", .noat "Slots" "number", .meth "Slots" "banks", .meth "Slots" "home", .meth "Slots" "move_next", .meth "Slots" "begin_row", .meth "Slots" "put", .meth "Slots" "sure", .meth "Slots" "drop", .meth "Slots" "get", .meth "Slots" "has", .meth "Slots" "many", .meth "Slots" "rows", .meth "Slots" "moved", .glo "House", .cls "House", .mkr "House", .noat "House" "now", .noat "House" "floor", .noat "House" "slots", .noat "House" "leaves", .noat "House" "past", .noat "House" "pages", .noat "House" "marked", .noat "House" "holders", .meth "House" "done", .meth "House" "put", .meth "House" "drop", .meth "House" "get", .meth "House" "has", .meth "House" "many", .meth "House" "lay_mark", .meth "House" "diary", .meth "House" "makes", .meth "House" "hold", .meth "House" "let_go", .meth "House" "held", .meth "House" "sweep", .meth "House" "ask_moment", .meth "House" "was"]
structure Txt (K : PySem.W.Frag) (mg : Str → Option Value) : Prop where
  ex : ∃ h : Heap, K.In h ∧ h.Ns mainGlobals mg
  c : He.SaysD faL fnL K
/-- the function object at f -/
def fdAt (K : PySem.W.Frag) (f : Addr) : FuncData := match K.lookup f with
  | some ⟨_, _, .func fd, _⟩ => fd
  | _ => default
section
variable {K : PySem.W.Frag} {mg : Str → Option Value}
theorem Txt.free_len (T : Txt K mg) : mg "len" = none := let ⟨_, X, G⟩ := T.ex; He.free_ok X G (T.c.fact 0 rfl)
theorem Txt.free_list (T : Txt K mg) : mg "list" = none := let ⟨_, X, G⟩ := T.ex; He.free_ok X G (T.c.fact 1 rfl)
theorem Txt.free_min (T : Txt K mg) : mg "min" = none := let ⟨_, X, G⟩ := T.ex; He.free_ok X G (T.c.fact 2 rfl)
theorem Txt.free_range (T : Txt K mg) : mg "range" = none := let ⟨_, X, G⟩ := T.ex; He.free_ok X G (T.c.fact 3 rfl)
theorem Txt.free_set (T : Txt K mg) : mg "set" = none := let ⟨_, X, G⟩ := T.ex; He.free_ok X G (T.c.fact 4 rfl)
theorem Txt.free_sorted (T : Txt K mg) : mg "sorted" = none := let ⟨_, X, G⟩ := T.ex; He.free_ok X G (T.c.fact 5 rfl)
theorem Txt.free_sum (T : Txt K mg) : mg "sum" = none := let ⟨_, X, G⟩ := T.ex; He.free_ok X G (T.c.fact 6 rfl)
theorem Txt.int_MOST_KEYS (T : Txt K mg) : ∃ t, mg "MOST_KEYS" = some (.int 8 t) := let ⟨_, X, G⟩ := T.ex; He.int_ok X G (T.c.fact 7 rfl)
theorem Txt.int_LEAST_OF_TWO (T : Txt K mg) : ∃ t, mg "LEAST_OF_TWO" = some (.int 5 t) := let ⟨_, X, G⟩ := T.ex; He.int_ok X G (T.c.fact 8 rfl)
theorem Txt.int_PLACES (T : Txt K mg) : ∃ t, mg "PLACES" = some (.int 65536 t) := let ⟨_, X, G⟩ := T.ex; He.int_ok X G (T.c.fact 9 rfl)
theorem Txt.int_LEAST_SIZE (T : Txt K mg) : ∃ t, mg "LEAST_SIZE" = some (.int 4 t) := let ⟨_, X, G⟩ := T.ex; He.int_ok X G (T.c.fact 10 rfl)
theorem Txt.int_MOST_SIZE (T : Txt K mg) : ∃ t, mg "MOST_SIZE" = some (.int 256 t) := let ⟨_, X, G⟩ := T.ex; He.int_ok X G (T.c.fact 11 rfl)
theorem Txt.glo_needed (T : Txt K mg) : mg "needed" = some (.ref (He.ga K "needed")) := let ⟨_, X, G⟩ := T.ex; He.glo_ok X G (T.c.fact 12 rfl)
theorem Txt.glo_mark_of (T : Txt K mg) : mg "mark_of" = some (.ref (He.ga K "mark_of")) := let ⟨_, X, G⟩ := T.ex; He.glo_ok X G (T.c.fact 13 rfl)
theorem Txt.glo_slot_of (T : Txt K mg) : mg "slot_of" = some (.ref (He.ga K "slot_of")) := let ⟨_, X, G⟩ := T.ex; He.glo_ok X G (T.c.fact 14 rfl)
theorem Txt.glo__law_cell_at (T : Txt K mg) : mg "_law_cell_at" = some (.ref (He.ga K "_law_cell_at")) := let ⟨_, X, G⟩ := T.ex; He.glo_ok X G (T.c.fact 15 rfl)
theorem Txt.glo__law_digit (T : Txt K mg) : mg "_law_digit" = some (.ref (He.ga K "_law_digit")) := let ⟨_, X, G⟩ := T.ex; He.glo_ok X G (T.c.fact 16 rfl)
theorem Txt.glo__law_begun (T : Txt K mg) : mg "_law_begun" = some (.ref (He.ga K "_law_begun")) := let ⟨_, X, G⟩ := T.ex; He.glo_ok X G (T.c.fact 17 rfl)
theorem Txt.glo__law_last (T : Txt K mg) : mg "_law_last" = some (.ref (He.ga K "_law_last")) := let ⟨_, X, G⟩ := T.ex; He.glo_ok X G (T.c.fact 18 rfl)
theorem Txt.glo__law_changed (T : Txt K mg) : mg "_law_changed" = some (.ref (He.ga K "_law_changed")) := let ⟨_, X, G⟩ := T.ex; He.glo_ok X G (T.c.fact 19 rfl)
theorem Txt.glo__law_swept (T : Txt K mg) : mg "_law_swept" = some (.ref (He.ga K "_law_swept")) := let ⟨_, X, G⟩ := T.ex; He.glo_ok X G (T.c.fact 20 rfl)
theorem Txt.glo__law_deed (T : Txt K mg) : mg "_law_deed" = some (.ref (He.ga K "_law_deed")) := let ⟨_, X, G⟩ := T.ex; He.glo_ok X G (T.c.fact 21 rfl)
theorem Txt.glo__law_right (T : Txt K mg) : mg "_law_right" = some (.ref (He.ga K "_law_right")) := let ⟨_, X, G⟩ := T.ex; He.glo_ok X G (T.c.fact 22 rfl)
theorem Txt.glo_law (T : Txt K mg) : mg "law" = some (.ref (He.ga K "law")) := let ⟨_, X, G⟩ := T.ex; He.glo_ok X G (T.c.fact 23 rfl)
theorem Txt.glo_WalkError (T : Txt K mg) : mg "WalkError" = some (.ref (He.ga K "WalkError")) := let ⟨_, X, G⟩ := T.ex; He.glo_ok X G (T.c.fact 24 rfl)
theorem Txt.glo_NoKey (T : Txt K mg) : mg "NoKey" = some (.ref (He.ga K "NoKey")) := let ⟨_, X, G⟩ := T.ex; He.glo_ok X G (T.c.fact 25 rfl)
theorem Txt.glo_Twice (T : Txt K mg) : mg "Twice" = some (.ref (He.ga K "Twice")) := let ⟨_, X, G⟩ := T.ex; He.glo_ok X G (T.c.fact 26 rfl)
theorem Txt.glo_TooOld (T : Txt K mg) : mg "TooOld" = some (.ref (He.ga K "TooOld")) := let ⟨_, X, G⟩ := T.ex; He.glo_ok X G (T.c.fact 27 rfl)
theorem Txt.glo_NoMoment (T : Txt K mg) : mg "NoMoment" = some (.ref (He.ga K "NoMoment")) := let ⟨_, X, G⟩ := T.ex; He.glo_ok X G (T.c.fact 28 rfl)
theorem Txt.glo_Leaves (T : Txt K mg) : mg "Leaves" = some (.ref (He.ga K "Leaves")) := let ⟨_, X, G⟩ := T.ex; He.glo_ok X G (T.c.fact 29 rfl)
theorem Txt.cls_Leaves (T : Txt K mg) : Cls K (He.ga K "Leaves") := He.cls_ok (T.c.fact 30 rfl)
theorem Txt.mk_Leaves (T : Txt K mg) : Mk K (He.ga K "Leaves") (He.ma K (He.ga K "Leaves") "__init__") := He.mkr_ok (T.c.fact 31 rfl)
theorem Txt.no_Leaves_parted (T : Txt K mg) : NoAttr K (He.ga K "Leaves") "parted" := He.noat_ok (T.c.fact 32 rfl)
theorem Txt.me_Leaves_leaf_at (T : Txt K mg) : Meth K (He.ga K "Leaves") "leaf_at" (He.ma K (He.ga K "Leaves") "leaf_at") := He.meth_ok (T.c.fact 33 rfl)
theorem Txt.me_Leaves_has (T : Txt K mg) : Meth K (He.ga K "Leaves") "has" (He.ma K (He.ga K "Leaves") "has") := He.meth_ok (T.c.fact 34 rfl)
theorem Txt.me_Leaves_many (T : Txt K mg) : Meth K (He.ga K "Leaves") "many" (He.ma K (He.ga K "Leaves") "many") := He.meth_ok (T.c.fact 35 rfl)
theorem Txt.me_Leaves_add (T : Txt K mg) : Meth K (He.ga K "Leaves") "add" (He.ma K (He.ga K "Leaves") "add") := He.meth_ok (T.c.fact 36 rfl)
theorem Txt.me_Leaves_discard (T : Txt K mg) : Meth K (He.ga K "Leaves") "discard" (He.ma K (He.ga K "Leaves") "discard") := He.meth_ok (T.c.fact 37 rfl)
theorem Txt.me_Leaves_join_at (T : Txt K mg) : Meth K (He.ga K "Leaves") "join_at" (He.ma K (He.ga K "Leaves") "join_at") := He.meth_ok (T.c.fact 38 rfl)
theorem Txt.glo_Makes (T : Txt K mg) : mg "Makes" = some (.ref (He.ga K "Makes")) := let ⟨_, X, G⟩ := T.ex; He.glo_ok X G (T.c.fact 39 rfl)
theorem Txt.cls_Makes (T : Txt K mg) : Cls K (He.ga K "Makes") := He.cls_ok (T.c.fact 40 rfl)
theorem Txt.mk_Makes (T : Txt K mg) : Mk K (He.ga K "Makes") (He.ma K (He.ga K "Makes") "__init__") := He.mkr_ok (T.c.fact 41 rfl)
theorem Txt.no_Makes_by_key (T : Txt K mg) : NoAttr K (He.ga K "Makes") "by_key" := He.noat_ok (T.c.fact 42 rfl)
theorem Txt.me_Makes_add (T : Txt K mg) : Meth K (He.ga K "Makes") "add" (He.ma K (He.ga K "Makes") "add") := He.meth_ok (T.c.fact 43 rfl)
theorem Txt.me_Makes_made (T : Txt K mg) : Meth K (He.ga K "Makes") "made" (He.ma K (He.ga K "Makes") "made") := He.meth_ok (T.c.fact 44 rfl)
theorem Txt.me_Makes_value_at (T : Txt K mg) : Meth K (He.ga K "Makes") "value_at" (He.ma K (He.ga K "Makes") "value_at") := He.meth_ok (T.c.fact 45 rfl)
theorem Txt.me_Makes_thrown (T : Txt K mg) : Meth K (He.ga K "Makes") "thrown" (He.ma K (He.ga K "Makes") "thrown") := He.meth_ok (T.c.fact 46 rfl)
theorem Txt.glo_Bank (T : Txt K mg) : mg "Bank" = some (.ref (He.ga K "Bank")) := let ⟨_, X, G⟩ := T.ex; He.glo_ok X G (T.c.fact 47 rfl)
theorem Txt.cls_Bank (T : Txt K mg) : Cls K (He.ga K "Bank") := He.cls_ok (T.c.fact 48 rfl)
theorem Txt.mk_Bank (T : Txt K mg) : Mk K (He.ga K "Bank") (He.ma K (He.ga K "Bank") "__init__") := He.mkr_ok (T.c.fact 49 rfl)
theorem Txt.no_Bank_size (T : Txt K mg) : NoAttr K (He.ga K "Bank") "size" := He.noat_ok (T.c.fact 50 rfl)
theorem Txt.no_Bank_lots (T : Txt K mg) : NoAttr K (He.ga K "Bank") "lots" := He.noat_ok (T.c.fact 51 rfl)
theorem Txt.me_Bank_lot_of (T : Txt K mg) : Meth K (He.ga K "Bank") "lot_of" (He.ma K (He.ga K "Bank") "lot_of") := He.meth_ok (T.c.fact 52 rfl)
theorem Txt.glo_Slots (T : Txt K mg) : mg "Slots" = some (.ref (He.ga K "Slots")) := let ⟨_, X, G⟩ := T.ex; He.glo_ok X G (T.c.fact 53 rfl)
theorem Txt.cls_Slots (T : Txt K mg) : Cls K (He.ga K "Slots") := He.cls_ok (T.c.fact 54 rfl)
theorem Txt.mk_Slots (T : Txt K mg) : Mk K (He.ga K "Slots") (He.ma K (He.ga K "Slots") "__init__") := He.mkr_ok (T.c.fact 55 rfl)
theorem Txt.no_Slots_old (T : Txt K mg) : NoAttr K (He.ga K "Slots") "old" := He.noat_ok (T.c.fact 56 rfl)
theorem Txt.no_Slots_young (T : Txt K mg) : NoAttr K (He.ga K "Slots") "young" := He.noat_ok (T.c.fact 57 rfl)
theorem Txt.no_Slots_shifted (T : Txt K mg) : NoAttr K (He.ga K "Slots") "shifted" := He.noat_ok (T.c.fact 58 rfl)
theorem Txt.no_Slots_number (T : Txt K mg) : NoAttr K (He.ga K "Slots") "number" := He.noat_ok (T.c.fact 59 rfl)
theorem Txt.me_Slots_banks (T : Txt K mg) : Meth K (He.ga K "Slots") "banks" (He.ma K (He.ga K "Slots") "banks") := He.meth_ok (T.c.fact 60 rfl)
theorem Txt.me_Slots_home (T : Txt K mg) : Meth K (He.ga K "Slots") "home" (He.ma K (He.ga K "Slots") "home") := He.meth_ok (T.c.fact 61 rfl)
theorem Txt.me_Slots_move_next (T : Txt K mg) : Meth K (He.ga K "Slots") "move_next" (He.ma K (He.ga K "Slots") "move_next") := He.meth_ok (T.c.fact 62 rfl)
theorem Txt.me_Slots_begin_row (T : Txt K mg) : Meth K (He.ga K "Slots") "begin_row" (He.ma K (He.ga K "Slots") "begin_row") := He.meth_ok (T.c.fact 63 rfl)
theorem Txt.me_Slots_put (T : Txt K mg) : Meth K (He.ga K "Slots") "put" (He.ma K (He.ga K "Slots") "put") := He.meth_ok (T.c.fact 64 rfl)
theorem Txt.me_Slots_sure (T : Txt K mg) : Meth K (He.ga K "Slots") "sure" (He.ma K (He.ga K "Slots") "sure") := He.meth_ok (T.c.fact 65 rfl)
theorem Txt.me_Slots_drop (T : Txt K mg) : Meth K (He.ga K "Slots") "drop" (He.ma K (He.ga K "Slots") "drop") := He.meth_ok (T.c.fact 66 rfl)
theorem Txt.me_Slots_get (T : Txt K mg) : Meth K (He.ga K "Slots") "get" (He.ma K (He.ga K "Slots") "get") := He.meth_ok (T.c.fact 67 rfl)
theorem Txt.me_Slots_has (T : Txt K mg) : Meth K (He.ga K "Slots") "has" (He.ma K (He.ga K "Slots") "has") := He.meth_ok (T.c.fact 68 rfl)
theorem Txt.me_Slots_many (T : Txt K mg) : Meth K (He.ga K "Slots") "many" (He.ma K (He.ga K "Slots") "many") := He.meth_ok (T.c.fact 69 rfl)
theorem Txt.me_Slots_rows (T : Txt K mg) : Meth K (He.ga K "Slots") "rows" (He.ma K (He.ga K "Slots") "rows") := He.meth_ok (T.c.fact 70 rfl)
theorem Txt.me_Slots_moved (T : Txt K mg) : Meth K (He.ga K "Slots") "moved" (He.ma K (He.ga K "Slots") "moved") := He.meth_ok (T.c.fact 71 rfl)
theorem Txt.glo_House (T : Txt K mg) : mg "House" = some (.ref (He.ga K "House")) := let ⟨_, X, G⟩ := T.ex; He.glo_ok X G (T.c.fact 72 rfl)
theorem Txt.cls_House (T : Txt K mg) : Cls K (He.ga K "House") := He.cls_ok (T.c.fact 73 rfl)
theorem Txt.mk_House (T : Txt K mg) : Mk K (He.ga K "House") (He.ma K (He.ga K "House") "__init__") := He.mkr_ok (T.c.fact 74 rfl)
theorem Txt.no_House_now (T : Txt K mg) : NoAttr K (He.ga K "House") "now" := He.noat_ok (T.c.fact 75 rfl)
theorem Txt.no_House_floor (T : Txt K mg) : NoAttr K (He.ga K "House") "floor" := He.noat_ok (T.c.fact 76 rfl)
theorem Txt.no_House_slots (T : Txt K mg) : NoAttr K (He.ga K "House") "slots" := He.noat_ok (T.c.fact 77 rfl)
theorem Txt.no_House_leaves (T : Txt K mg) : NoAttr K (He.ga K "House") "leaves" := He.noat_ok (T.c.fact 78 rfl)
theorem Txt.no_House_past (T : Txt K mg) : NoAttr K (He.ga K "House") "past" := He.noat_ok (T.c.fact 79 rfl)
theorem Txt.no_House_pages (T : Txt K mg) : NoAttr K (He.ga K "House") "pages" := He.noat_ok (T.c.fact 80 rfl)
theorem Txt.no_House_marked (T : Txt K mg) : NoAttr K (He.ga K "House") "marked" := He.noat_ok (T.c.fact 81 rfl)
theorem Txt.no_House_holders (T : Txt K mg) : NoAttr K (He.ga K "House") "holders" := He.noat_ok (T.c.fact 82 rfl)
theorem Txt.me_House_done (T : Txt K mg) : Meth K (He.ga K "House") "done" (He.ma K (He.ga K "House") "done") := He.meth_ok (T.c.fact 83 rfl)
theorem Txt.me_House_put (T : Txt K mg) : Meth K (He.ga K "House") "put" (He.ma K (He.ga K "House") "put") := He.meth_ok (T.c.fact 84 rfl)
theorem Txt.me_House_drop (T : Txt K mg) : Meth K (He.ga K "House") "drop" (He.ma K (He.ga K "House") "drop") := He.meth_ok (T.c.fact 85 rfl)
theorem Txt.me_House_get (T : Txt K mg) : Meth K (He.ga K "House") "get" (He.ma K (He.ga K "House") "get") := He.meth_ok (T.c.fact 86 rfl)
theorem Txt.me_House_has (T : Txt K mg) : Meth K (He.ga K "House") "has" (He.ma K (He.ga K "House") "has") := He.meth_ok (T.c.fact 87 rfl)
theorem Txt.me_House_many (T : Txt K mg) : Meth K (He.ga K "House") "many" (He.ma K (He.ga K "House") "many") := He.meth_ok (T.c.fact 88 rfl)
theorem Txt.me_House_lay_mark (T : Txt K mg) : Meth K (He.ga K "House") "lay_mark" (He.ma K (He.ga K "House") "lay_mark") := He.meth_ok (T.c.fact 89 rfl)
theorem Txt.me_House_diary (T : Txt K mg) : Meth K (He.ga K "House") "diary" (He.ma K (He.ga K "House") "diary") := He.meth_ok (T.c.fact 90 rfl)
theorem Txt.me_House_makes (T : Txt K mg) : Meth K (He.ga K "House") "makes" (He.ma K (He.ga K "House") "makes") := He.meth_ok (T.c.fact 91 rfl)
theorem Txt.me_House_hold (T : Txt K mg) : Meth K (He.ga K "House") "hold" (He.ma K (He.ga K "House") "hold") := He.meth_ok (T.c.fact 92 rfl)
theorem Txt.me_House_let_go (T : Txt K mg) : Meth K (He.ga K "House") "let_go" (He.ma K (He.ga K "House") "let_go") := He.meth_ok (T.c.fact 93 rfl)
theorem Txt.me_House_held (T : Txt K mg) : Meth K (He.ga K "House") "held" (He.ma K (He.ga K "House") "held") := He.meth_ok (T.c.fact 94 rfl)
theorem Txt.me_House_sweep (T : Txt K mg) : Meth K (He.ga K "House") "sweep" (He.ma K (He.ga K "House") "sweep") := He.meth_ok (T.c.fact 95 rfl)
theorem Txt.me_House_ask_moment (T : Txt K mg) : Meth K (He.ga K "House") "ask_moment" (He.ma K (He.ga K "House") "ask_moment") := He.meth_ok (T.c.fact 96 rfl)
theorem Txt.me_House_was (T : Txt K mg) : Meth K (He.ga K "House") "was" (He.ma K (He.ga K "House") "was") := He.meth_ok (T.c.fact 97 rfl)
theorem Txt.f_Leaves___init__ (T : Txt K mg) : ∃ fd, FunD K "__init__" "Leaves.__init__" (defArgs s_Leaves___init__) (defBody s_Leaves___init__) (defScope s_Leaves___init__) [] [] (He.fAd K ("Leaves", some "__init__")) fd := T.c.def_ 0 (d := ds_Leaves___init__) rfl
theorem Txt.f_Leaves_leaf_at (T : Txt K mg) : ∃ fd, FunD K "leaf_at" "Leaves.leaf_at" (defArgs s_Leaves_leaf_at) (defBody s_Leaves_leaf_at) (defScope s_Leaves_leaf_at) [] [] (He.fAd K ("Leaves", some "leaf_at")) fd := T.c.def_ 1 (d := ds_Leaves_leaf_at) rfl
theorem Txt.f_Leaves_has (T : Txt K mg) : ∃ fd, FunD K "has" "Leaves.has" (defArgs s_Leaves_has) (defBody s_Leaves_has) (defScope s_Leaves_has) [] [] (He.fAd K ("Leaves", some "has")) fd := T.c.def_ 2 (d := ds_Leaves_has) rfl
theorem Txt.f_Leaves_many (T : Txt K mg) : ∃ fd, FunD K "many" "Leaves.many" (defArgs s_Leaves_many) (defBody s_Leaves_many) (defScope s_Leaves_many) [] [] (He.fAd K ("Leaves", some "many")) fd := T.c.def_ 3 (d := ds_Leaves_many) rfl
theorem Txt.f_Leaves_add (T : Txt K mg) : ∃ fd, FunD K "add" "Leaves.add" (defArgs s_Leaves_add) (defBody s_Leaves_add) (defScope s_Leaves_add) [] [] (He.fAd K ("Leaves", some "add")) fd := T.c.def_ 4 (d := ds_Leaves_add) rfl
theorem Txt.f_Leaves_discard (T : Txt K mg) : ∃ fd, FunD K "discard" "Leaves.discard" (defArgs s_Leaves_discard) (defBody s_Leaves_discard) (defScope s_Leaves_discard) [] [] (He.fAd K ("Leaves", some "discard")) fd := T.c.def_ 5 (d := ds_Leaves_discard) rfl
theorem Txt.f_Leaves_join_at (T : Txt K mg) : ∃ fd, FunD K "join_at" "Leaves.join_at" (defArgs s_Leaves_join_at) (defBody s_Leaves_join_at) (defScope s_Leaves_join_at) [] [] (He.fAd K ("Leaves", some "join_at")) fd := T.c.def_ 6 (d := ds_Leaves_join_at) rfl
theorem Txt.f_needed (T : Txt K mg) : ∃ fd, FunD K "needed" "needed" (defArgs s_needed) (defBody s_needed) (defScope s_needed) [] [] (He.fAd K ("needed", none)) fd := T.c.def_ 7 (d := ds_needed) rfl
theorem Txt.f_Makes___init__ (T : Txt K mg) : ∃ fd, FunD K "__init__" "Makes.__init__" (defArgs s_Makes___init__) (defBody s_Makes___init__) (defScope s_Makes___init__) [] [] (He.fAd K ("Makes", some "__init__")) fd := T.c.def_ 8 (d := ds_Makes___init__) rfl
theorem Txt.f_Makes_add (T : Txt K mg) : ∃ fd, FunD K "add" "Makes.add" (defArgs s_Makes_add) (defBody s_Makes_add) (defScope s_Makes_add) [] [] (He.fAd K ("Makes", some "add")) fd := T.c.def_ 9 (d := ds_Makes_add) rfl
theorem Txt.f_Makes_made (T : Txt K mg) : ∃ fd, FunD K "made" "Makes.made" (defArgs s_Makes_made) (defBody s_Makes_made) (defScope s_Makes_made) [] [] (He.fAd K ("Makes", some "made")) fd := T.c.def_ 10 (d := ds_Makes_made) rfl
theorem Txt.f_Makes_value_at (T : Txt K mg) : ∃ fd, FunD K "value_at" "Makes.value_at" (defArgs s_Makes_value_at) (defBody s_Makes_value_at) (defScope s_Makes_value_at) [] [] (He.fAd K ("Makes", some "value_at")) fd := T.c.def_ 11 (d := ds_Makes_value_at) rfl
theorem Txt.f_Makes_thrown (T : Txt K mg) : ∃ fd, FunD K "thrown" "Makes.thrown" (defArgs s_Makes_thrown) (defBody s_Makes_thrown) (defScope s_Makes_thrown) [] [] (He.fAd K ("Makes", some "thrown")) fd := T.c.def_ 12 (d := ds_Makes_thrown) rfl
theorem Txt.f_mark_of (T : Txt K mg) : ∃ fd, FunD K "mark_of" "mark_of" (defArgs s_mark_of) (defBody s_mark_of) (defScope s_mark_of) [] [] (He.fAd K ("mark_of", none)) fd := T.c.def_ 13 (d := ds_mark_of) rfl
theorem Txt.f_slot_of (T : Txt K mg) : ∃ fd, FunD K "slot_of" "slot_of" (defArgs s_slot_of) (defBody s_slot_of) (defScope s_slot_of) [] [] (He.fAd K ("slot_of", none)) fd := T.c.def_ 14 (d := ds_slot_of) rfl
theorem Txt.f_Bank___init__ (T : Txt K mg) : ∃ fd, FunD K "__init__" "Bank.__init__" (defArgs s_Bank___init__) (defBody s_Bank___init__) (defScope s_Bank___init__) [] [] (He.fAd K ("Bank", some "__init__")) fd := T.c.def_ 15 (d := ds_Bank___init__) rfl
theorem Txt.f_Bank_lot_of (T : Txt K mg) : ∃ fd, FunD K "lot_of" "Bank.lot_of" (defArgs s_Bank_lot_of) (defBody s_Bank_lot_of) (defScope s_Bank_lot_of) [] [] (He.fAd K ("Bank", some "lot_of")) fd := T.c.def_ 16 (d := ds_Bank_lot_of) rfl
theorem Txt.f_Slots___init__ (T : Txt K mg) : ∃ fd, FunD K "__init__" "Slots.__init__" (defArgs s_Slots___init__) (defBody s_Slots___init__) (defScope s_Slots___init__) [] [] (He.fAd K ("Slots", some "__init__")) fd := T.c.def_ 17 (d := ds_Slots___init__) rfl
theorem Txt.f_Slots_banks (T : Txt K mg) : ∃ fd, FunD K "banks" "Slots.banks" (defArgs s_Slots_banks) (defBody s_Slots_banks) (defScope s_Slots_banks) [] [] (He.fAd K ("Slots", some "banks")) fd := T.c.def_ 18 (d := ds_Slots_banks) rfl
theorem Txt.f_Slots_home (T : Txt K mg) : ∃ fd, FunD K "home" "Slots.home" (defArgs s_Slots_home) (defBody s_Slots_home) (defScope s_Slots_home) [] [] (He.fAd K ("Slots", some "home")) fd := T.c.def_ 19 (d := ds_Slots_home) rfl
theorem Txt.f_Slots_move_next (T : Txt K mg) : ∃ fd, FunD K "move_next" "Slots.move_next" (defArgs s_Slots_move_next) (defBody s_Slots_move_next) (defScope s_Slots_move_next) [] [] (He.fAd K ("Slots", some "move_next")) fd := T.c.def_ 20 (d := ds_Slots_move_next) rfl
theorem Txt.f_Slots_begin_row (T : Txt K mg) : ∃ fd, FunD K "begin_row" "Slots.begin_row" (defArgs s_Slots_begin_row) (defBody s_Slots_begin_row) (defScope s_Slots_begin_row) [] [] (He.fAd K ("Slots", some "begin_row")) fd := T.c.def_ 21 (d := ds_Slots_begin_row) rfl
theorem Txt.f_Slots_put (T : Txt K mg) : ∃ fd, FunD K "put" "Slots.put" (defArgs s_Slots_put) (defBody s_Slots_put) (defScope s_Slots_put) [] [] (He.fAd K ("Slots", some "put")) fd := T.c.def_ 22 (d := ds_Slots_put) rfl
theorem Txt.f_Slots_sure (T : Txt K mg) : ∃ fd, FunD K "sure" "Slots.sure" (defArgs s_Slots_sure) (defBody s_Slots_sure) (defScope s_Slots_sure) [] [] (He.fAd K ("Slots", some "sure")) fd := T.c.def_ 23 (d := ds_Slots_sure) rfl
theorem Txt.f_Slots_drop (T : Txt K mg) : ∃ fd, FunD K "drop" "Slots.drop" (defArgs s_Slots_drop) (defBody s_Slots_drop) (defScope s_Slots_drop) [] [] (He.fAd K ("Slots", some "drop")) fd := T.c.def_ 24 (d := ds_Slots_drop) rfl
theorem Txt.f_Slots_get (T : Txt K mg) : ∃ fd, FunD K "get" "Slots.get" (defArgs s_Slots_get) (defBody s_Slots_get) (defScope s_Slots_get) [] [] (He.fAd K ("Slots", some "get")) fd := T.c.def_ 25 (d := ds_Slots_get) rfl
theorem Txt.f_Slots_has (T : Txt K mg) : ∃ fd, FunD K "has" "Slots.has" (defArgs s_Slots_has) (defBody s_Slots_has) (defScope s_Slots_has) [] [] (He.fAd K ("Slots", some "has")) fd := T.c.def_ 26 (d := ds_Slots_has) rfl
theorem Txt.f_Slots_many (T : Txt K mg) : ∃ fd, FunD K "many" "Slots.many" (defArgs s_Slots_many) (defBody s_Slots_many) (defScope s_Slots_many) [] [] (He.fAd K ("Slots", some "many")) fd := T.c.def_ 27 (d := ds_Slots_many) rfl
theorem Txt.f_Slots_rows (T : Txt K mg) : ∃ fd, FunD K "rows" "Slots.rows" (defArgs s_Slots_rows) (defBody s_Slots_rows) (defScope s_Slots_rows) [] [] (He.fAd K ("Slots", some "rows")) fd := T.c.def_ 28 (d := ds_Slots_rows) rfl
theorem Txt.f_Slots_moved (T : Txt K mg) : ∃ fd, FunD K "moved" "Slots.moved" (defArgs s_Slots_moved) (defBody s_Slots_moved) (defScope s_Slots_moved) [] [] (He.fAd K ("Slots", some "moved")) fd := T.c.def_ 29 (d := ds_Slots_moved) rfl
theorem Txt.f_House___init__ (T : Txt K mg) : ∃ fd, FunD K "__init__" "House.__init__" (defArgs s_House___init__) (defBody s_House___init__) (defScope s_House___init__) [] [] (He.fAd K ("House", some "__init__")) fd := T.c.def_ 30 (d := ds_House___init__) rfl
theorem Txt.f_House_done (T : Txt K mg) : ∃ fd, FunD K "done" "House.done" (defArgs s_House_done) (defBody s_House_done) (defScope s_House_done) [] [] (He.fAd K ("House", some "done")) fd := T.c.def_ 31 (d := ds_House_done) rfl
theorem Txt.f_House_put (T : Txt K mg) : ∃ fd, FunD K "put" "House.put" (defArgs s_House_put) (defBody s_House_put) (defScope s_House_put) [] [] (He.fAd K ("House", some "put")) fd := T.c.def_ 32 (d := ds_House_put) rfl
theorem Txt.f_House_drop (T : Txt K mg) : ∃ fd, FunD K "drop" "House.drop" (defArgs s_House_drop) (defBody s_House_drop) (defScope s_House_drop) [] [] (He.fAd K ("House", some "drop")) fd := T.c.def_ 33 (d := ds_House_drop) rfl
theorem Txt.f_House_get (T : Txt K mg) : ∃ fd, FunD K "get" "House.get" (defArgs s_House_get) (defBody s_House_get) (defScope s_House_get) [] [] (He.fAd K ("House", some "get")) fd := T.c.def_ 34 (d := ds_House_get) rfl
theorem Txt.f_House_has (T : Txt K mg) : ∃ fd, FunD K "has" "House.has" (defArgs s_House_has) (defBody s_House_has) (defScope s_House_has) [] [] (He.fAd K ("House", some "has")) fd := T.c.def_ 35 (d := ds_House_has) rfl
theorem Txt.f_House_many (T : Txt K mg) : ∃ fd, FunD K "many" "House.many" (defArgs s_House_many) (defBody s_House_many) (defScope s_House_many) [] [] (He.fAd K ("House", some "many")) fd := T.c.def_ 36 (d := ds_House_many) rfl
theorem Txt.f_House_lay_mark (T : Txt K mg) : ∃ fd, FunD K "lay_mark" "House.lay_mark" (defArgs s_House_lay_mark) (defBody s_House_lay_mark) (defScope s_House_lay_mark) [] [] (He.fAd K ("House", some "lay_mark")) fd := T.c.def_ 37 (d := ds_House_lay_mark) rfl
theorem Txt.f_House_diary (T : Txt K mg) : ∃ fd, FunD K "diary" "House.diary" (defArgs s_House_diary) (defBody s_House_diary) (defScope s_House_diary) [V.int 0] [] (He.fAd K ("House", some "diary")) fd := T.c.def_ 38 (d := ds_House_diary) rfl
theorem Txt.f_House_makes (T : Txt K mg) : ∃ fd, FunD K "makes" "House.makes" (defArgs s_House_makes) (defBody s_House_makes) (defScope s_House_makes) [] [] (He.fAd K ("House", some "makes")) fd := T.c.def_ 39 (d := ds_House_makes) rfl
theorem Txt.f_House_hold (T : Txt K mg) : ∃ fd, FunD K "hold" "House.hold" (defArgs s_House_hold) (defBody s_House_hold) (defScope s_House_hold) [] [] (He.fAd K ("House", some "hold")) fd := T.c.def_ 40 (d := ds_House_hold) rfl
theorem Txt.f_House_let_go (T : Txt K mg) : ∃ fd, FunD K "let_go" "House.let_go" (defArgs s_House_let_go) (defBody s_House_let_go) (defScope s_House_let_go) [] [] (He.fAd K ("House", some "let_go")) fd := T.c.def_ 41 (d := ds_House_let_go) rfl
theorem Txt.f_House_held (T : Txt K mg) : ∃ fd, FunD K "held" "House.held" (defArgs s_House_held) (defBody s_House_held) (defScope s_House_held) [] [] (He.fAd K ("House", some "held")) fd := T.c.def_ 42 (d := ds_House_held) rfl
theorem Txt.f_House_sweep (T : Txt K mg) : ∃ fd, FunD K "sweep" "House.sweep" (defArgs s_House_sweep) (defBody s_House_sweep) (defScope s_House_sweep) [] [] (He.fAd K ("House", some "sweep")) fd := T.c.def_ 43 (d := ds_House_sweep) rfl
theorem Txt.f_House_ask_moment (T : Txt K mg) : ∃ fd, FunD K "ask_moment" "House.ask_moment" (defArgs s_House_ask_moment) (defBody s_House_ask_moment) (defScope s_House_ask_moment) [] [] (He.fAd K ("House", some "ask_moment")) fd := T.c.def_ 44 (d := ds_House_ask_moment) rfl
theorem Txt.f_House_was (T : Txt K mg) : ∃ fd, FunD K "was" "House.was" (defArgs s_House_was) (defBody s_House_was) (defScope s_House_was) [] [] (He.fAd K ("House", some "was")) fd := T.c.def_ 45 (d := ds_House_was) rfl
theorem Txt.f__law_cell_at (T : Txt K mg) : ∃ fd, FunD K "_law_cell_at" "_law_cell_at" (defArgs s__law_cell_at) (defBody s__law_cell_at) (defScope s__law_cell_at) [] [] (He.fAd K ("_law_cell_at", none)) fd := T.c.def_ 46 (d := ds__law_cell_at) rfl
theorem Txt.f__law_digit (T : Txt K mg) : ∃ fd, FunD K "_law_digit" "_law_digit" (defArgs s__law_digit) (defBody s__law_digit) (defScope s__law_digit) [] [] (He.fAd K ("_law_digit", none)) fd := T.c.def_ 47 (d := ds__law_digit) rfl
theorem Txt.f__law_begun (T : Txt K mg) : ∃ fd, FunD K "_law_begun" "_law_begun" (defArgs s__law_begun) (defBody s__law_begun) (defScope s__law_begun) [] [] (He.fAd K ("_law_begun", none)) fd := T.c.def_ 48 (d := ds__law_begun) rfl
theorem Txt.f__law_last (T : Txt K mg) : ∃ fd, FunD K "_law_last" "_law_last" (defArgs s__law_last) (defBody s__law_last) (defScope s__law_last) [] [] (He.fAd K ("_law_last", none)) fd := T.c.def_ 49 (d := ds__law_last) rfl
theorem Txt.f__law_changed (T : Txt K mg) : ∃ fd, FunD K "_law_changed" "_law_changed" (defArgs s__law_changed) (defBody s__law_changed) (defScope s__law_changed) [] [] (He.fAd K ("_law_changed", none)) fd := T.c.def_ 50 (d := ds__law_changed) rfl
theorem Txt.f__law_swept (T : Txt K mg) : ∃ fd, FunD K "_law_swept" "_law_swept" (defArgs s__law_swept) (defBody s__law_swept) (defScope s__law_swept) [] [] (He.fAd K ("_law_swept", none)) fd := T.c.def_ 51 (d := ds__law_swept) rfl
theorem Txt.f__law_deed (T : Txt K mg) : ∃ fd, FunD K "_law_deed" "_law_deed" (defArgs s__law_deed) (defBody s__law_deed) (defScope s__law_deed) [] [] (He.fAd K ("_law_deed", none)) fd := T.c.def_ 52 (d := ds__law_deed) rfl
theorem Txt.f__law_right (T : Txt K mg) : ∃ fd, FunD K "_law_right" "_law_right" (defArgs s__law_right) (defBody s__law_right) (defScope s__law_right) [] [] (He.fAd K ("_law_right", none)) fd := T.c.def_ 53 (d := ds__law_right) rfl
theorem Txt.f_law (T : Txt K mg) : ∃ fd, FunD K "law" "law" (defArgs s_law) (defBody s_law) (defScope s_law) [] [] (He.fAd K ("law", none)) fd := T.c.def_ 54 (d := ds_law) rfl
end
end SW
namespace SW
open PySem PySem.Spec PyProof.Rows L2
/-! ### tests that the facts decide -/
section
variable {p A B : Prop} {dp : Decidable p}
theorem ifT (h : p) (a : A) : if decide p = true then A else B := by
  rw [if_pos (decide_eq_true h)]
  exact a
theorem ifF (h : ¬ p) (b : B) : if decide p = true then A else B := by
  rw [if_neg (by simpa using h)]
  exact b
theorem ifNT (h : ¬ p) (a : A) : if (!decide p) = true then A else B := by
  rw [if_pos (by simpa using h)]
  exact a
theorem ifNF (h : p) (b : B) : if (!decide p) = true then A else B := by
  rw [if_neg (by simpa using h)]
  exact b
theorem ifS (h1 : p → A) (h2 : ¬ p → B) : if decide p = true then A else B := by
  by_cases h : p
  · exact ifT h (h1 h)
  · exact ifF h (h2 h)
theorem ifNS (h1 : ¬ p → A) (h2 : p → B) : if (!decide p) = true then A else B := by
  by_cases h : p
  · exact ifNF h (h2 h)
  · exact ifNT h (h1 h)
end
/-! ### rules over the layer's rules -/
/-- where the steps end -/
structure Stp (p : Prop) : Prop where
  out : p
section
variable {X : Cx} {e o value : Expr} {f m x : Str} {pos pos' apos p tpos : Pos} {ta tv to : TE} {C : Addr} {t : TA} {es : List Expr}
/-- e.f of an instance of the class at C; G tells where the field is -/
def tG (G : Hp → Addr → V → Prop) (ta : TE) : TE := fun σ H Q => ta σ H fun x H1 => ∃ a v, x = .ref a ∧ G H1 a v ∧ Q v H1
theorem pe_G {G : Hp → Addr → V → Prop} (he : PE X e ta) (c : Cls X.K C) (n : NoAttr X.K C f) (hG : ∀ H a v, G H a v → ∃ dx fs, H a = some (.ins C dx fs) ∧ fs.lookup f = some v)
    (hb : attributeBase e f X.env (eval e X.env) = eval e X.env := by rfl) : PE X (.Attribute e f pos) (tG G ta) := by
  refine ⟨fun pins s σ H Q I h => ?_⟩
  refine attr_of hb (thn (he.run pins s σ H _ I h) fun u s1 ⟨x, H1, I1, rx, a, v, ex, g, q⟩ => ?_)
  subst ex
  obtain rfl : u = Value.ref a := rx
  obtain ⟨dx, fs, ea, l⟩ := hG _ _ _ g
  exact getattr_ok I1 ea c n l fun u' s2 I2 ru => ⟨v, H1, I2, ru, q⟩
/-- e.f = value -/
def sG (G : Hp → Addr → V → Hp → Prop) (ta tv : TE) : TS := fun D σ H => tv σ H fun y H1 => ta σ H1 fun x H2 => ∃ a H3, x = .ref a ∧ G H2 a y H3 ∧ D.nx σ H3
theorem ps_G {G : Hp → Addr → V → Hp → Prop} (ha : PE X o ta) (hv : PE X value tv) (c : Cls X.K C) (n : NoAttr X.K C f)
    (hG : ∀ H a v H', G H a v H' → ∃ dx fs, H a = some (.ins C dx fs) ∧ fs.length < 1000 ∧ H' = upd H a (.ins C dx (putF f v fs)))
    (hs : swapsWith value (some (.Attribute o f pos')) pos.line X.env = pure false := by rfl) : PS X (.Assign [.Attribute o f pos'] value pos) (sG G ta tv) := by
  refine ⟨fun pins s σ H D I h => ?_⟩
  refine plainObj_wpAny_Assign_Attribute (thn (hv.run pins s σ H _ I h) fun u s1 ⟨y, H1, I1, ry, q⟩ => thn (ha.run pins s1 σ H1 _ I1 q) fun ov s2 ⟨x, H2, I2, rx, a, H3, ex, g, q2⟩ => ?_) hs
  subst ex
  obtain rfl : ov = Value.ref a := rx
  obtain ⟨dx, fs, ea, l, e3⟩ := hG _ _ _ _ g
  subst e3
  exact setattr_ok I2 ea c n l ry fun s3 I3 => ⟨σ, _, I3, q2⟩
/-- e.f op= value -/
def sGA (G : Hp → Addr → V → Prop) (G' : Hp → Addr → V → Hp → Prop) (rd : V → V → Hp → VK → Prop) (ta tv : TE) : TS := fun D σ H => ta σ H fun x H1 => ∃ a v, x = .ref a ∧ G H1 a v ∧
  tv σ H1 fun y H2 => rd v y H2 fun z H3 => ∃ H4, G' H3 a z H4 ∧ D.nx σ H4
theorem ps_GA {G : Hp → Addr → V → Prop} {G' : Hp → Addr → V → Hp → Prop} {op : Operator} {rd : V → V → Hp → VK → Prop} (ha : PE X o ta) (hv : PE X value tv) (hop : InOp X op rd) (c : Cls X.K C) (n : NoAttr X.K C f)
    (hG : ∀ H a v, G H a v → ∃ dx fs, H a = some (.ins C dx fs) ∧ fs.lookup f = some v)
    (hG' : ∀ H a v H', G' H a v H' → ∃ dx fs, H a = some (.ins C dx fs) ∧ fs.length < 1000 ∧ H' = upd H a (.ins C dx (putF f v fs))) :
    PS X (.AugAssign (.Attribute o f tpos) op value pos) (sGA G G' rd ta tv) := by
  refine ⟨fun pins s σ H D I h => ?_⟩
  refine wpAny_AugAssign_AttributeAny (thn (ha.run pins s σ H _ I h) fun ov s1 ⟨x, H1, I1, rx, a, v, ex, g, q⟩ => ?_)
  subst ex
  obtain rfl : ov = Value.ref a := rx
  obtain ⟨dx, fs, ea, l⟩ := hG _ _ _ g
  refine getattr_ok I1 ea c n l fun u s2 I2 ru => thn (hv.run pins s2 σ H1 _ I2 q) fun w3 s3 ⟨y, H2, I3, ry, q3⟩ => thn (hop pins s3 σ H2 v y u w3 _ I3 ru ry q3) fun w4 s4 ⟨z, H3, I4, rz, H4, g', q4⟩ => ?_
  obtain ⟨dx', fs', ea', l', e4⟩ := hG' _ _ _ _ g'
  subst e4
  exact setattr_ok I4 ea' c n l' rz fun s5 I5 => ⟨σ, _, I5, q4⟩
/-- a dict is locked while it is walked: the steps end ahead of it -/
def sLock (t : TS) : TS := fun D σ H => Stp (tLock t D σ H)
theorem ps_lockS {st : Stmt} {t : TS} (h : PS X st t) : PS X st (sLock t) := ⟨fun pins s σ H D I hw => (ps_lock h).run pins s σ H D I hw.out⟩
/-- a def stands and keeps its promise; dvs: the defaults that fill up -/
def OkD (P : Program) (w : World) (K : PySem.W.Frag) (mg : Str → Option Value) (base : Heap) (k : Nat) (at_ : Str × Option Str) (ps : List Str) (dvs : List V) (sp : Sp) : Prop :=
  ∃ fd ds, FnOk P w K mg base (L2.CX P w) k (He.fAd K at_) fd ps sp ∧ Binds K fd ps ds ∧ Vals dvs ds ∧ PySem.W.keepIn K (.ref (He.fAd K at_)) = true
variable {k j : Nat} {ps : List Str} {dvs : List V} {sp : Sp} {cn : Str}
/-- f(e, ..) -/
theorem pe_D (G : OkD X.prog X.w X.K X.mg X.base k (x, none) ps dvs sp) (hm : X.mg x = some (.ref (He.ga X.K x))) (hr : Room j X.A) (ha : PA X (e :: es) t) (hj : k ≤ j := by decide) (hg : Gl X x := by rfl)
    (hdb : (x == ("__debug__" : Str)) = false := by decide) (he : starEach (e :: es) X.env = (false, eval e X.env) :: starEach es X.env := by rfl) (hpl : (backTo pos (starEach es X.env)).any (·.1) = false := by rfl) :
    PE X (.Call (.Name x p) (e :: es) [] pos) (tCall sp dvs E0 t) := by
  obtain ⟨fd, ds, F, b, v, kp⟩ := G
  exact pe_call F (hr.mono hj) hg hm kp b v passL ha hdb he hpl
theorem pe_D0 (G : OkD X.prog X.w X.K X.mg X.base k (x, none) ps dvs sp) (hm : X.mg x = some (.ref (He.ga X.K x))) (hr : Room j X.A) (hj : k ≤ j := by decide) (hg : Gl X x := by rfl)
    (hdb : (x == ("__debug__" : Str)) = false := by decide) : PE X (.Call (.Name x p) [] [] pos) (tCall sp dvs E0 tNil) := by
  obtain ⟨fd, ds, F, b, v, kp⟩ := G
  exact pe_call0 F (hr.mono hj) hg hm kp b v passL hdb
/-- o.m(e, ..): G tells that o is an instance without a field m -/
def tGM (G : Hp → Addr → Prop) (sp : Sp) (dvs : List V) (E : XK) (ta : TE) (t : TA) : TE := fun σ H Q => ta σ H fun x H1 => ∃ a, x = .ref a ∧ G H1 a ∧ t σ H1 fun vs H2 => sp (x :: (vs ++ dvs)) H2 Q E
theorem pe_GM {G : Hp → Addr → Prop} {pl : Sem Bool} {E : XK} (Gd : OkD X.prog X.w X.K X.mg X.base k (cn, some m) ps dvs sp) (he : PE X o to) (c : Cls X.K (He.ga X.K cn)) (hm : Meth X.K (He.ga X.K cn) m (He.ma X.K (He.ga X.K cn) m))
    (hG : ∀ H a, G H a → ∃ dx fs, H a = some (.ins (He.ga X.K cn) dx fs) ∧ fs.lookup m = none) (hr : Room j X.A) (hx : Passes (L2.CX X.prog X.w) X E) (ha : PA X (e :: es) t) (hj : k ≤ j := by decide)
    (hst : starEach (e :: es) X.env = (false, eval e X.env) :: starEach es X.env := by rfl) (hpl : (backTo pos (starEach es X.env)).any (·.1) = false := by rfl)
    (ht : eval (.Call (.Attribute o m apos) (e :: es) [] pos) X.env = (do
      let ov ← eval o X.env
      standAt apos.atName
      let (f, first) ← holding [ov] (getMethod ov m pl)
      callWith pos f first (backTo pos (starEach (e :: es) X.env)) (backToKw pos (keywordEach [] X.env))) := by rfl) :
    PE X (.Call (.Attribute o m apos) (e :: es) [] pos) (tGM G sp dvs E to t) := by
  obtain ⟨fd, ds, F, b, v, kp⟩ := Gd
  refine ⟨fun pins s σ H Q I h => ?_⟩
  refine PySem.W.methodCall_KW (pl := pl) (thn (he.run pins s σ H _ I h) fun u s1 ⟨x, H1, I1, rx, a, ex, g, q⟩ => ?_) ht
  subst ex
  obtain rfl : u = Value.ref a := rx
  obtain ⟨dx, fs, ea, l⟩ := hG _ _ g
  refine getmeth_ok I1 ea c hm l ?_
  refine PySem.W.callWith_K (first := [.ref a]) (h₀ := X.base) I.ok.mod.kin hm.kp (thn (ha.run pos pins s1 σ H1 _ I1 q) fun us s2 ⟨vs, H2, I2, r, q2⟩ => ⟨I2.kIn, ?_⟩) hst hpl
  exact run_fn (us := .ref a :: us) (vs := .ref a :: vs) F (hr.mono hj) b v hx I2 (.cons rfl r) q2
theorem pe_GM0 {G : Hp → Addr → Prop} {pl : Sem Bool} {E : XK} (Gd : OkD X.prog X.w X.K X.mg X.base k (cn, some m) ps dvs sp) (he : PE X o to) (c : Cls X.K (He.ga X.K cn)) (hm : Meth X.K (He.ga X.K cn) m (He.ma X.K (He.ga X.K cn) m))
    (hG : ∀ H a, G H a → ∃ dx fs, H a = some (.ins (He.ga X.K cn) dx fs) ∧ fs.lookup m = none) (hr : Room j X.A) (hx : Passes (L2.CX X.prog X.w) X E) (hj : k ≤ j := by decide)
    (ht : eval (.Call (.Attribute o m apos) [] [] pos) X.env = (do
      let ov ← eval o X.env
      standAt apos.atName
      let (f, first) ← holding [ov] (getMethod ov m pl)
      callWith pos f first (backTo pos (starEach [] X.env)) (backToKw pos (keywordEach [] X.env))) := by rfl) :
    PE X (.Call (.Attribute o m apos) [] [] pos) (tGM G sp dvs E to tNil) := by
  obtain ⟨fd, ds, F, b, v, kp⟩ := Gd
  refine ⟨fun pins s σ H Q I h => ?_⟩
  refine PySem.W.methodCall_KW (pl := pl) (thn (he.run pins s σ H _ I h) fun u s1 ⟨x, H1, I1, rx, a, ex, g, q⟩ => ?_) ht
  subst ex
  obtain rfl : u = Value.ref a := rx
  obtain ⟨dx, fs, ea, l⟩ := hG _ _ g
  refine getmeth_ok I1 ea c hm l ?_
  exact PySem.W.callWith_K0 (first := [.ref a]) I1.kIn hm.kp (run_fn (us := [.ref a]) (vs := [.ref a]) F (hr.mono hj) b v hx I1 (.cons rfl .nil) q)
/-- C(e, ..) -/
theorem pe_MK (Gd : OkD X.prog X.w X.K X.mg X.base k (cn, some "__init__") ps dvs sp) (hm : X.mg cn = some (.ref (He.ga X.K cn))) (M : Mk X.K (He.ga X.K cn) (He.ma X.K (He.ga X.K cn) "__init__")) (hr : Room (j + 1) X.A) (ha : PA X (e :: es) t) (hj : k ≤ j := by decide) (hg : Gl X cn := by rfl)
    (hdb : (cn == ("__debug__" : Str)) = false := by decide) (he : starEach (e :: es) X.env = (false, eval e X.env) :: starEach es X.env := by rfl) (hpl : (backTo pos (starEach es X.env)).any (·.1) = false := by rfl) :
    PE X (.Call (.Name cn p) (e :: es) [] pos) (tMake (He.ga X.K cn) sp dvs E0 t) := by
  obtain ⟨fd, ds, F, b, v, kp⟩ := Gd
  exact pe_make M (F.mono hj) hr hg hm b v passL ha hdb he hpl
theorem pe_MK0 (Gd : OkD X.prog X.w X.K X.mg X.base k (cn, some "__init__") ps dvs sp) (hm : X.mg cn = some (.ref (He.ga X.K cn))) (M : Mk X.K (He.ga X.K cn) (He.ma X.K (He.ga X.K cn) "__init__")) (hr : Room (j + 1) X.A) (hj : k ≤ j := by decide) (hg : Gl X cn := by rfl)
    (hdb : (cn == ("__debug__" : Str)) = false := by decide) : PE X (.Call (.Name cn p) [] [] pos) (tMake (He.ga X.K cn) sp dvs E0 tNil) := by
  obtain ⟨fd, ds, F, b, v, kp⟩ := Gd
  exact pe_make0 M (F.mono hj) hr hg hm b v passL hdb
end
section
variable {P : Program} {w : World} {K : PySem.W.Frag} {mg : Str → Option Value} {base : Heap} {x qual : Str} {params : Arguments} {body : List Stmt} {scope : Scope} {dv0 : List V} {at_ : Str × Option Str} {N ps : List Str} {k : Nat} {sp : Sp}
/-- THE RULE for a def without defaults -/
theorem ok_of (F : ∃ fd, FunD K x qual params body scope [] [] (He.fAd K at_) fd) (S : FnScope N ps scope) (len : ∀ vs H Q E, sp vs H Q E → vs.length = ps.length)
    (hb : ∀ (dV kV doc pm : Value) (an : Option Addr) (cdv ct : Value) (us : List Value), us.length = ps.length → bindArgs (PySem.W.fnOf x qual params body scope .none kV doc pm an cdv ct) ⟨us, []⟩ = pure (ps.zip us))
    (hbody : ∀ (cdv : Value) (A : Around) (outer : List Env) (s : Shared) (H : Hp) (vs : List V) (Q : VK) (E : XK), Room k (A.deeper (envOfC qual scope s.heap.objs.size (He.fAd K at_) cdv)) → sp vs H Q E →
      ∃ t, PSs (cxOf (L2.CX P w) P w K mg base N qual scope (He.fAd K at_) cdv A outer s H E) body t ∧ t { nx := fun _ H' => Q .non H', rt := Q } (start N vs) H) : OkD P w K mg base (k + 1) at_ ps [] sp := by
  obtain ⟨fd, F⟩ := F
  refine ⟨fd, [], F.ok S len hbody, F.bindsN fun kV doc pm an cdv ct us hl => hb .none kV doc pm an cdv ct us hl, .nil, F.kp⟩
end
/-! ### loops from any heap -/
section
variable {g : TG} {tt : TT} {te : TE} {vs : List Nat} {σ : L2.St} {H0 : Hp} {D : Addr} {Qd : Hp → Prop} {K : PySem.W.Frag} {a : Addr} {xs : List V}
abbrev LcW (J : It) (g : TG) (tt : TT) (te : TE) (vs : List Nat) (σ : L2.St) (D : Addr) (H0 : Hp) (Qd : Hp → Prop) : Prop := ∃ W : Nat → Nat → Hp → Prop, (∃ m, W 0 m H0) ∧ ∀ i m H, W i m H →
  (J.stop i H ∧ Qd H) ∨ (J.go i H ∧ ∃ Nx : Hp → Prop, (∀ H', Nx H' → ∃ m', m' < m ∧ W (i + 1) m' H') ∧ ∀ x H', J.yld i H x H' → g x (wipe σ vs) H' fun σ2 H2 => wipe σ2 vs = wipe σ vs ∧ tt σ2 H2 fun b H3 =>
    if b = true then te σ2 H3 fun y H4 => ∃ acc, H4 D = some (.lst acc) ∧ acc.length < sizeLine ∧ Nx (upd H4 D (.lst (acc ++ [y]))) else Nx H3)
abbrev LcT (g : TG) (tt : TT) (te : TE) (vs : List Nat) (σ : L2.St) (D : Addr) (x : V) (H : Hp) (Nx : Hp → Prop) : Prop := g x (wipe σ vs) H fun σ2 H2 => wipe σ2 vs = wipe σ vs ∧ tt σ2 H2 fun b H3 =>
    if b = true then te σ2 H3 fun y H4 => ∃ acc, H4 D = some (.lst acc) ∧ acc.length < sizeLine ∧ Nx (upd H4 D (.lst (acc ++ [y]))) else Nx H3
theorem lcR {lo : Int} {n : Nat} (Pv : Nat → Hp → Prop) (h0 : Pv 0 H0) (hs : ∀ i H, i < n → Pv i H → LcT g tt te vs σ D (.int (lo + i)) H (Pv (i + 1))) (hd : ∀ H, Pv n H → Qd H) : LcW (Itr lo n) g tt te vs σ D H0 Qd := by
  refine ⟨fun i m H => m = n - i ∧ i ≤ n ∧ Pv i H, ⟨n, by simp, Nat.zero_le _, h0⟩, ?_⟩
  rintro i m H ⟨rfl, hi, p⟩
  rcases Nat.lt_or_eq_of_le hi with hlt | e
  · refine .inr ⟨hlt, Pv (i + 1), fun H' p' => ⟨n - (i + 1), by omega, rfl, hlt, p'⟩, fun x H' y => ?_⟩
    obtain ⟨e, y⟩ := y
    subst e y
    exact hs i _ hlt p
  · subst e
    exact .inl ⟨Nat.le_refl _, hd H p⟩
theorem lcL (Pv : Nat → Hp → Prop) (h0 : Pv 0 H0) (hl : ∀ i H, i ≤ xs.length → Pv i H → SqL K H a xs) (hs : ∀ i x H, xs[i]? = some x → Pv i H → LcT g tt te vs σ D x H (Pv (i + 1))) (hd : ∀ H, Pv xs.length H → Qd H) : LcW (Itl K a) g tt te vs σ D H0 Qd := by
  refine ⟨fun i m H => m = xs.length - i ∧ i ≤ xs.length ∧ Pv i H, ⟨xs.length, by simp, Nat.zero_le _, h0⟩, ?_⟩
  rintro i m H ⟨rfl, hi, p⟩
  have q := hl i H hi p
  rcases Nat.lt_or_eq_of_le hi with hlt | e
  · refine .inr ⟨⟨xs, xs[i], q, by simp [hlt]⟩, Pv (i + 1), fun H' p' => ⟨xs.length - (i + 1), by omega, rfl, hlt, p'⟩, fun x H' y => ?_⟩
    obtain ⟨e, y⟩ := y
    subst e
    exact hs i x _ (y xs q) p
  · subst e
    exact .inl ⟨⟨xs, q, Nat.le_refl _⟩, hd H p⟩
theorem lcU (Pv : Nat → Hp → Prop) (h0 : Pv 0 H0) (hl : ∀ i H, i ≤ xs.length → Pv i H → SqT K H a xs) (hs : ∀ i x H, xs[i]? = some x → Pv i H → LcT g tt te vs σ D x H (Pv (i + 1))) (hd : ∀ H, Pv xs.length H → Qd H) : LcW (Itt K a) g tt te vs σ D H0 Qd := by
  refine ⟨fun i m H => m = xs.length - i ∧ i ≤ xs.length ∧ Pv i H, ⟨xs.length, by simp, Nat.zero_le _, h0⟩, ?_⟩
  rintro i m H ⟨rfl, hi, p⟩
  have q := hl i H hi p
  rcases Nat.lt_or_eq_of_le hi with hlt | e
  · refine .inr ⟨⟨xs, xs[i], q, by simp [hlt]⟩, Pv (i + 1), fun H' p' => ⟨xs.length - (i + 1), by omega, rfl, hlt, p'⟩, fun x H' y => ?_⟩
    obtain ⟨e, y⟩ := y
    subst e
    exact hs i x _ (y xs q) p
  · subst e
    exact .inl ⟨⟨xs, q, Nat.le_refl _⟩, hd H p⟩
end
section
variable {g : TG} {tb : TS} {D : Ends} {σ : L2.St} {H : Hp} {K : PySem.W.Frag} {a d : Addr} {xs : List V} {od : Obj} {kvs : List (Key × V)}
abbrev ForW (J : It) (g : TG) (tb : TS) (D : Ends) (σ : L2.St) (H : Hp) : Prop := ∃ W : Nat → Nat → L2.St → Hp → Prop, (∃ m, W 0 m σ H) ∧ ∀ i m σ H, W i m σ H →
  (J.stop i H ∧ D.nx σ H) ∨ (J.go i H ∧ ∃ N : L2.St → Hp → Prop, (∀ σ' H', N σ' H' → ∃ m', m' < m ∧ W (i + 1) m' σ' H') ∧ ∀ x H', J.yld i H x H' → g x σ H' fun σ2 H2 => tb { D with nx := N, ct := N, bk := D.nx } σ2 H2)
/-- a walk of n turns -/
theorem forN {J : It} (n : Nat) (Pv : Nat → L2.St → Hp → Prop) (h0 : Pv 0 σ H) (hgo : ∀ i σ H, i < n → Pv i σ H → J.go i H) (hst : ∀ σ H, Pv n σ H → J.stop n H)
    (hs : ∀ i σ H x H', i < n → Pv i σ H → J.yld i H x H' → g x σ H' fun σ2 H2 => tb { D with nx := Pv (i + 1), ct := Pv (i + 1), bk := D.nx } σ2 H2) (hd : ∀ σ H, Pv n σ H → D.nx σ H) : ForW J g tb D σ H := by
  refine ⟨fun i m σ H => m = n - i ∧ i ≤ n ∧ Pv i σ H, ⟨n, by simp, Nat.zero_le _, h0⟩, ?_⟩
  rintro i m σ H ⟨rfl, hi, p⟩
  rcases Nat.lt_or_eq_of_le hi with hlt | e
  · exact .inr ⟨hgo i σ H hlt p, Pv (i + 1), fun σ' H' p' => ⟨n - (i + 1), by omega, rfl, hlt, p'⟩, fun x H' y => hs i σ H x H' hlt p y⟩
  · subst e
    exact .inl ⟨hst σ H p, hd σ H p⟩
theorem forI (Pv : Nat → L2.St → Hp → Prop) (h0 : Pv 0 σ H) (hl : ∀ i σ H, Pv i σ H → H d = some (.frz od (.dK kvs)))
    (hs : ∀ i k v t σ H, kvs[i]? = some (k, v) → Pv i σ H → H t = none → g (.ref t) σ (upd H t (.tup [kV k, v])) fun σ2 H2 => tb { D with nx := Pv (i + 1), ct := Pv (i + 1), bk := D.nx } σ2 H2)
    (hd : ∀ σ H, Pv kvs.length σ H → D.nx σ H) : ForW (Iti d od kvs) g tb D σ H :=
  forN kvs.length Pv h0 (fun i σ H hi p => ⟨hl i σ H p, hi⟩) (fun σ H p => ⟨hl _ σ H p, Nat.le_refl _⟩)
    (fun i σ H x H' hi p y => by
      obtain ⟨t, k, v, e, rfl, ht, rfl⟩ := y
      exact hs i k v t σ H e p ht) hd
theorem forK (Pv : Nat → L2.St → Hp → Prop) (h0 : Pv 0 σ H) (hl : ∀ i σ H, Pv i σ H → H d = some (.frz od (.dK kvs)))
    (hs : ∀ i k v σ H, kvs[i]? = some (k, v) → Pv i σ H → g (kV k) σ H fun σ2 H2 => tb { D with nx := Pv (i + 1), ct := Pv (i + 1), bk := D.nx } σ2 H2)
    (hd : ∀ σ H, Pv kvs.length σ H → D.nx σ H) : ForW (Itk d od kvs) g tb D σ H :=
  forN kvs.length Pv h0 (fun i σ H hi p => ⟨hl i σ H p, hi⟩) (fun σ H p => ⟨hl _ σ H p, Nat.le_refl _⟩)
    (fun i σ H x H' hi p y => by
      obtain ⟨rfl, k, v, e, rfl⟩ := y
      exact hs i k v σ _ e p) hd
theorem forR {lo : Int} {n : Nat} (Pv : Nat → L2.St → Hp → Prop) (h0 : Pv 0 σ H)
    (hs : ∀ i σ H, i < n → Pv i σ H → g (.int (lo + i)) σ H fun σ2 H2 => tb { D with nx := Pv (i + 1), ct := Pv (i + 1), bk := D.nx } σ2 H2) (hd : ∀ σ H, Pv n σ H → D.nx σ H) : ForW (Itr lo n) g tb D σ H :=
  forN n Pv h0 (fun i σ H hi p => hi) (fun σ H p => Nat.le_refl _) (fun i σ H x H' hi p y => by
    obtain ⟨rfl, rfl⟩ := y
    exact hs i σ _ hi p) hd
theorem forL (Pv : Nat → L2.St → Hp → Prop) (h0 : Pv 0 σ H) (hl : ∀ i σ H, Pv i σ H → SqL K H a xs)
    (hs : ∀ i x σ H, xs[i]? = some x → Pv i σ H → g x σ H fun σ2 H2 => tb { D with nx := Pv (i + 1), ct := Pv (i + 1), bk := D.nx } σ2 H2) (hd : ∀ σ H, Pv xs.length σ H → D.nx σ H) : ForW (Itl K a) g tb D σ H :=
  forN xs.length Pv h0 (fun i σ H hi p => ⟨xs, xs[i], hl i σ H p, by simp [hi]⟩) (fun σ H p => ⟨xs, hl _ σ H p, Nat.le_refl _⟩) (fun i σ H x H' hi p y => by
    obtain ⟨rfl, y⟩ := y
    exact hs i x σ _ (y xs (hl i σ _ p)) p) hd
end
end SW
namespace SW
open PySem PySem.Spec PyProof.Rows L2
def flLeaves (v0 : V) : List (Str × V) := [("parted", v0)]
def ILeaves (K : PySem.W.Frag) : Hp → Addr → Prop := fun H a => ∃ dx v0, H a = some (.ins (He.ga K "Leaves") dx (flLeaves v0))
theorem lk_Leaves_parted {v0 : V} : List.lookup ("parted" : Str) (flLeaves v0) = some v0 := by kernel_rfl
theorem pf_Leaves_parted {v0 v : V} : putF ("parted" : Str) v (flLeaves v0) = flLeaves v := by kernel_rfl
def GLeaves_parted (K : PySem.W.Frag) : Hp → Addr → V → Prop := fun H a v => ∃ dx, H a = some (.ins (He.ga K "Leaves") dx (flLeaves v))
def SLeaves_parted (K : PySem.W.Frag) : Hp → Addr → V → Hp → Prop := fun H a v H2 => ∃ dx v0, H a = some (.ins (He.ga K "Leaves") dx (flLeaves v0)) ∧ H2 = upd H a (.ins (He.ga K "Leaves") dx (flLeaves v))
theorem gGLeaves_parted {K : PySem.W.Frag} : ∀ H a v, GLeaves_parted K H a v → ∃ dx fs, H a = some (.ins (He.ga K "Leaves") dx fs) ∧ fs.lookup ("parted" : Str) = some v := fun _ _ _ ⟨dx, h⟩ => ⟨dx, _, h, lk_Leaves_parted⟩
theorem sGLeaves_parted {K : PySem.W.Frag} : ∀ H a v H2, SLeaves_parted K H a v H2 → ∃ dx fs, H a = some (.ins (He.ga K "Leaves") dx fs) ∧ fs.length < 1000 ∧ H2 = upd H a (.ins (He.ga K "Leaves") dx (putF "parted" v fs)) := fun _ _ _ _ ⟨dx, v0, h, e⟩ => ⟨dx, _, h, (by show 1 < 1000; decide), by rw [pf_Leaves_parted]; exact e⟩
theorem in_Leaves {v0 : V} : putF ("parted" : Str) v0 ([]) = flLeaves v0 := by kernel_rfl
theorem gMLeaves_leaf_at {K : PySem.W.Frag} : ∀ H a, ILeaves K H a → ∃ dx fs, H a = some (.ins (He.ga K "Leaves") dx fs) ∧ fs.lookup ("leaf_at" : Str) = none := fun _ _ ⟨dx, v0, h⟩ => ⟨dx, _, h, by kernel_rfl⟩
theorem gMLeaves_has {K : PySem.W.Frag} : ∀ H a, ILeaves K H a → ∃ dx fs, H a = some (.ins (He.ga K "Leaves") dx fs) ∧ fs.lookup ("has" : Str) = none := fun _ _ ⟨dx, v0, h⟩ => ⟨dx, _, h, by kernel_rfl⟩
theorem gMLeaves_many {K : PySem.W.Frag} : ∀ H a, ILeaves K H a → ∃ dx fs, H a = some (.ins (He.ga K "Leaves") dx fs) ∧ fs.lookup ("many" : Str) = none := fun _ _ ⟨dx, v0, h⟩ => ⟨dx, _, h, by kernel_rfl⟩
theorem gMLeaves_add {K : PySem.W.Frag} : ∀ H a, ILeaves K H a → ∃ dx fs, H a = some (.ins (He.ga K "Leaves") dx fs) ∧ fs.lookup ("add" : Str) = none := fun _ _ ⟨dx, v0, h⟩ => ⟨dx, _, h, by kernel_rfl⟩
theorem gMLeaves_discard {K : PySem.W.Frag} : ∀ H a, ILeaves K H a → ∃ dx fs, H a = some (.ins (He.ga K "Leaves") dx fs) ∧ fs.lookup ("discard" : Str) = none := fun _ _ ⟨dx, v0, h⟩ => ⟨dx, _, h, by kernel_rfl⟩
theorem gMLeaves_join_at {K : PySem.W.Frag} : ∀ H a, ILeaves K H a → ∃ dx fs, H a = some (.ins (He.ga K "Leaves") dx fs) ∧ fs.lookup ("join_at" : Str) = none := fun _ _ ⟨dx, v0, h⟩ => ⟨dx, _, h, by kernel_rfl⟩
def flMakes (v0 : V) : List (Str × V) := [("by_key", v0)]
def IMakes (K : PySem.W.Frag) : Hp → Addr → Prop := fun H a => ∃ dx v0, H a = some (.ins (He.ga K "Makes") dx (flMakes v0))
theorem lk_Makes_by_key {v0 : V} : List.lookup ("by_key" : Str) (flMakes v0) = some v0 := by kernel_rfl
theorem pf_Makes_by_key {v0 v : V} : putF ("by_key" : Str) v (flMakes v0) = flMakes v := by kernel_rfl
def GMakes_by_key (K : PySem.W.Frag) : Hp → Addr → V → Prop := fun H a v => ∃ dx, H a = some (.ins (He.ga K "Makes") dx (flMakes v))
def SMakes_by_key (K : PySem.W.Frag) : Hp → Addr → V → Hp → Prop := fun H a v H2 => ∃ dx v0, H a = some (.ins (He.ga K "Makes") dx (flMakes v0)) ∧ H2 = upd H a (.ins (He.ga K "Makes") dx (flMakes v))
theorem gGMakes_by_key {K : PySem.W.Frag} : ∀ H a v, GMakes_by_key K H a v → ∃ dx fs, H a = some (.ins (He.ga K "Makes") dx fs) ∧ fs.lookup ("by_key" : Str) = some v := fun _ _ _ ⟨dx, h⟩ => ⟨dx, _, h, lk_Makes_by_key⟩
theorem sGMakes_by_key {K : PySem.W.Frag} : ∀ H a v H2, SMakes_by_key K H a v H2 → ∃ dx fs, H a = some (.ins (He.ga K "Makes") dx fs) ∧ fs.length < 1000 ∧ H2 = upd H a (.ins (He.ga K "Makes") dx (putF "by_key" v fs)) := fun _ _ _ _ ⟨dx, v0, h, e⟩ => ⟨dx, _, h, (by show 1 < 1000; decide), by rw [pf_Makes_by_key]; exact e⟩
theorem in_Makes {v0 : V} : putF ("by_key" : Str) v0 ([]) = flMakes v0 := by kernel_rfl
theorem gMMakes_add {K : PySem.W.Frag} : ∀ H a, IMakes K H a → ∃ dx fs, H a = some (.ins (He.ga K "Makes") dx fs) ∧ fs.lookup ("add" : Str) = none := fun _ _ ⟨dx, v0, h⟩ => ⟨dx, _, h, by kernel_rfl⟩
theorem gMMakes_made {K : PySem.W.Frag} : ∀ H a, IMakes K H a → ∃ dx fs, H a = some (.ins (He.ga K "Makes") dx fs) ∧ fs.lookup ("made" : Str) = none := fun _ _ ⟨dx, v0, h⟩ => ⟨dx, _, h, by kernel_rfl⟩
theorem gMMakes_value_at {K : PySem.W.Frag} : ∀ H a, IMakes K H a → ∃ dx fs, H a = some (.ins (He.ga K "Makes") dx fs) ∧ fs.lookup ("value_at" : Str) = none := fun _ _ ⟨dx, v0, h⟩ => ⟨dx, _, h, by kernel_rfl⟩
theorem gMMakes_thrown {K : PySem.W.Frag} : ∀ H a, IMakes K H a → ∃ dx fs, H a = some (.ins (He.ga K "Makes") dx fs) ∧ fs.lookup ("thrown" : Str) = none := fun _ _ ⟨dx, v0, h⟩ => ⟨dx, _, h, by kernel_rfl⟩
def flBank (v0 v1 : V) : List (Str × V) := [("size", v0), ("lots", v1)]
def IBank (K : PySem.W.Frag) : Hp → Addr → Prop := fun H a => ∃ dx v0 v1, H a = some (.ins (He.ga K "Bank") dx (flBank v0 v1))
theorem lk_Bank_size {v0 v1 : V} : List.lookup ("size" : Str) (flBank v0 v1) = some v0 := by kernel_rfl
theorem pf_Bank_size {v0 v1 v : V} : putF ("size" : Str) v (flBank v0 v1) = flBank v v1 := by kernel_rfl
def GBank_size (K : PySem.W.Frag) : Hp → Addr → V → Prop := fun H a v => ∃ dx v1, H a = some (.ins (He.ga K "Bank") dx (flBank v v1))
def SBank_size (K : PySem.W.Frag) : Hp → Addr → V → Hp → Prop := fun H a v H2 => ∃ dx v0 v1, H a = some (.ins (He.ga K "Bank") dx (flBank v0 v1)) ∧ H2 = upd H a (.ins (He.ga K "Bank") dx (flBank v v1))
theorem gGBank_size {K : PySem.W.Frag} : ∀ H a v, GBank_size K H a v → ∃ dx fs, H a = some (.ins (He.ga K "Bank") dx fs) ∧ fs.lookup ("size" : Str) = some v := fun _ _ _ ⟨dx, v1, h⟩ => ⟨dx, _, h, lk_Bank_size⟩
theorem sGBank_size {K : PySem.W.Frag} : ∀ H a v H2, SBank_size K H a v H2 → ∃ dx fs, H a = some (.ins (He.ga K "Bank") dx fs) ∧ fs.length < 1000 ∧ H2 = upd H a (.ins (He.ga K "Bank") dx (putF "size" v fs)) := fun _ _ _ _ ⟨dx, v0, v1, h, e⟩ => ⟨dx, _, h, (by show 2 < 1000; decide), by rw [pf_Bank_size]; exact e⟩
theorem lk_Bank_lots {v0 v1 : V} : List.lookup ("lots" : Str) (flBank v0 v1) = some v1 := by kernel_rfl
theorem pf_Bank_lots {v0 v1 v : V} : putF ("lots" : Str) v (flBank v0 v1) = flBank v0 v := by kernel_rfl
def GBank_lots (K : PySem.W.Frag) : Hp → Addr → V → Prop := fun H a v => ∃ dx v0, H a = some (.ins (He.ga K "Bank") dx (flBank v0 v))
def SBank_lots (K : PySem.W.Frag) : Hp → Addr → V → Hp → Prop := fun H a v H2 => ∃ dx v0 v1, H a = some (.ins (He.ga K "Bank") dx (flBank v0 v1)) ∧ H2 = upd H a (.ins (He.ga K "Bank") dx (flBank v0 v))
theorem gGBank_lots {K : PySem.W.Frag} : ∀ H a v, GBank_lots K H a v → ∃ dx fs, H a = some (.ins (He.ga K "Bank") dx fs) ∧ fs.lookup ("lots" : Str) = some v := fun _ _ _ ⟨dx, v0, h⟩ => ⟨dx, _, h, lk_Bank_lots⟩
theorem sGBank_lots {K : PySem.W.Frag} : ∀ H a v H2, SBank_lots K H a v H2 → ∃ dx fs, H a = some (.ins (He.ga K "Bank") dx fs) ∧ fs.length < 1000 ∧ H2 = upd H a (.ins (He.ga K "Bank") dx (putF "lots" v fs)) := fun _ _ _ _ ⟨dx, v0, v1, h, e⟩ => ⟨dx, _, h, (by show 2 < 1000; decide), by rw [pf_Bank_lots]; exact e⟩
theorem in_Bank {v0 v1 : V} : putF ("lots" : Str) v1 (putF ("size" : Str) v0 ([])) = flBank v0 v1 := by kernel_rfl
theorem gMBank_lot_of {K : PySem.W.Frag} : ∀ H a, IBank K H a → ∃ dx fs, H a = some (.ins (He.ga K "Bank") dx fs) ∧ fs.lookup ("lot_of" : Str) = none := fun _ _ ⟨dx, v0, v1, h⟩ => ⟨dx, _, h, by kernel_rfl⟩
def flSlots (v0 v1 v2 v3 : V) : List (Str × V) := [("old", v0), ("young", v1), ("shifted", v2), ("number", v3)]
def ISlots (K : PySem.W.Frag) : Hp → Addr → Prop := fun H a => ∃ dx v0 v1 v2 v3, H a = some (.ins (He.ga K "Slots") dx (flSlots v0 v1 v2 v3))
theorem lk_Slots_old {v0 v1 v2 v3 : V} : List.lookup ("old" : Str) (flSlots v0 v1 v2 v3) = some v0 := by kernel_rfl
theorem pf_Slots_old {v0 v1 v2 v3 v : V} : putF ("old" : Str) v (flSlots v0 v1 v2 v3) = flSlots v v1 v2 v3 := by kernel_rfl
def GSlots_old (K : PySem.W.Frag) : Hp → Addr → V → Prop := fun H a v => ∃ dx v1 v2 v3, H a = some (.ins (He.ga K "Slots") dx (flSlots v v1 v2 v3))
def SSlots_old (K : PySem.W.Frag) : Hp → Addr → V → Hp → Prop := fun H a v H2 => ∃ dx v0 v1 v2 v3, H a = some (.ins (He.ga K "Slots") dx (flSlots v0 v1 v2 v3)) ∧ H2 = upd H a (.ins (He.ga K "Slots") dx (flSlots v v1 v2 v3))
theorem gGSlots_old {K : PySem.W.Frag} : ∀ H a v, GSlots_old K H a v → ∃ dx fs, H a = some (.ins (He.ga K "Slots") dx fs) ∧ fs.lookup ("old" : Str) = some v := fun _ _ _ ⟨dx, v1, v2, v3, h⟩ => ⟨dx, _, h, lk_Slots_old⟩
theorem sGSlots_old {K : PySem.W.Frag} : ∀ H a v H2, SSlots_old K H a v H2 → ∃ dx fs, H a = some (.ins (He.ga K "Slots") dx fs) ∧ fs.length < 1000 ∧ H2 = upd H a (.ins (He.ga K "Slots") dx (putF "old" v fs)) := fun _ _ _ _ ⟨dx, v0, v1, v2, v3, h, e⟩ => ⟨dx, _, h, (by show 4 < 1000; decide), by rw [pf_Slots_old]; exact e⟩
theorem lk_Slots_young {v0 v1 v2 v3 : V} : List.lookup ("young" : Str) (flSlots v0 v1 v2 v3) = some v1 := by kernel_rfl
theorem pf_Slots_young {v0 v1 v2 v3 v : V} : putF ("young" : Str) v (flSlots v0 v1 v2 v3) = flSlots v0 v v2 v3 := by kernel_rfl
def GSlots_young (K : PySem.W.Frag) : Hp → Addr → V → Prop := fun H a v => ∃ dx v0 v2 v3, H a = some (.ins (He.ga K "Slots") dx (flSlots v0 v v2 v3))
def SSlots_young (K : PySem.W.Frag) : Hp → Addr → V → Hp → Prop := fun H a v H2 => ∃ dx v0 v1 v2 v3, H a = some (.ins (He.ga K "Slots") dx (flSlots v0 v1 v2 v3)) ∧ H2 = upd H a (.ins (He.ga K "Slots") dx (flSlots v0 v v2 v3))
theorem gGSlots_young {K : PySem.W.Frag} : ∀ H a v, GSlots_young K H a v → ∃ dx fs, H a = some (.ins (He.ga K "Slots") dx fs) ∧ fs.lookup ("young" : Str) = some v := fun _ _ _ ⟨dx, v0, v2, v3, h⟩ => ⟨dx, _, h, lk_Slots_young⟩
theorem sGSlots_young {K : PySem.W.Frag} : ∀ H a v H2, SSlots_young K H a v H2 → ∃ dx fs, H a = some (.ins (He.ga K "Slots") dx fs) ∧ fs.length < 1000 ∧ H2 = upd H a (.ins (He.ga K "Slots") dx (putF "young" v fs)) := fun _ _ _ _ ⟨dx, v0, v1, v2, v3, h, e⟩ => ⟨dx, _, h, (by show 4 < 1000; decide), by rw [pf_Slots_young]; exact e⟩
theorem lk_Slots_shifted {v0 v1 v2 v3 : V} : List.lookup ("shifted" : Str) (flSlots v0 v1 v2 v3) = some v2 := by kernel_rfl
theorem pf_Slots_shifted {v0 v1 v2 v3 v : V} : putF ("shifted" : Str) v (flSlots v0 v1 v2 v3) = flSlots v0 v1 v v3 := by kernel_rfl
def GSlots_shifted (K : PySem.W.Frag) : Hp → Addr → V → Prop := fun H a v => ∃ dx v0 v1 v3, H a = some (.ins (He.ga K "Slots") dx (flSlots v0 v1 v v3))
def SSlots_shifted (K : PySem.W.Frag) : Hp → Addr → V → Hp → Prop := fun H a v H2 => ∃ dx v0 v1 v2 v3, H a = some (.ins (He.ga K "Slots") dx (flSlots v0 v1 v2 v3)) ∧ H2 = upd H a (.ins (He.ga K "Slots") dx (flSlots v0 v1 v v3))
theorem gGSlots_shifted {K : PySem.W.Frag} : ∀ H a v, GSlots_shifted K H a v → ∃ dx fs, H a = some (.ins (He.ga K "Slots") dx fs) ∧ fs.lookup ("shifted" : Str) = some v := fun _ _ _ ⟨dx, v0, v1, v3, h⟩ => ⟨dx, _, h, lk_Slots_shifted⟩
theorem sGSlots_shifted {K : PySem.W.Frag} : ∀ H a v H2, SSlots_shifted K H a v H2 → ∃ dx fs, H a = some (.ins (He.ga K "Slots") dx fs) ∧ fs.length < 1000 ∧ H2 = upd H a (.ins (He.ga K "Slots") dx (putF "shifted" v fs)) := fun _ _ _ _ ⟨dx, v0, v1, v2, v3, h, e⟩ => ⟨dx, _, h, (by show 4 < 1000; decide), by rw [pf_Slots_shifted]; exact e⟩
theorem lk_Slots_number {v0 v1 v2 v3 : V} : List.lookup ("number" : Str) (flSlots v0 v1 v2 v3) = some v3 := by kernel_rfl
theorem pf_Slots_number {v0 v1 v2 v3 v : V} : putF ("number" : Str) v (flSlots v0 v1 v2 v3) = flSlots v0 v1 v2 v := by kernel_rfl
def GSlots_number (K : PySem.W.Frag) : Hp → Addr → V → Prop := fun H a v => ∃ dx v0 v1 v2, H a = some (.ins (He.ga K "Slots") dx (flSlots v0 v1 v2 v))
def SSlots_number (K : PySem.W.Frag) : Hp → Addr → V → Hp → Prop := fun H a v H2 => ∃ dx v0 v1 v2 v3, H a = some (.ins (He.ga K "Slots") dx (flSlots v0 v1 v2 v3)) ∧ H2 = upd H a (.ins (He.ga K "Slots") dx (flSlots v0 v1 v2 v))
theorem gGSlots_number {K : PySem.W.Frag} : ∀ H a v, GSlots_number K H a v → ∃ dx fs, H a = some (.ins (He.ga K "Slots") dx fs) ∧ fs.lookup ("number" : Str) = some v := fun _ _ _ ⟨dx, v0, v1, v2, h⟩ => ⟨dx, _, h, lk_Slots_number⟩
theorem sGSlots_number {K : PySem.W.Frag} : ∀ H a v H2, SSlots_number K H a v H2 → ∃ dx fs, H a = some (.ins (He.ga K "Slots") dx fs) ∧ fs.length < 1000 ∧ H2 = upd H a (.ins (He.ga K "Slots") dx (putF "number" v fs)) := fun _ _ _ _ ⟨dx, v0, v1, v2, v3, h, e⟩ => ⟨dx, _, h, (by show 4 < 1000; decide), by rw [pf_Slots_number]; exact e⟩
theorem in_Slots {v0 v1 v2 v3 : V} : putF ("number" : Str) v3 (putF ("shifted" : Str) v2 (putF ("young" : Str) v1 (putF ("old" : Str) v0 ([])))) = flSlots v0 v1 v2 v3 := by kernel_rfl
theorem gMSlots_banks {K : PySem.W.Frag} : ∀ H a, ISlots K H a → ∃ dx fs, H a = some (.ins (He.ga K "Slots") dx fs) ∧ fs.lookup ("banks" : Str) = none := fun _ _ ⟨dx, v0, v1, v2, v3, h⟩ => ⟨dx, _, h, by kernel_rfl⟩
theorem gMSlots_home {K : PySem.W.Frag} : ∀ H a, ISlots K H a → ∃ dx fs, H a = some (.ins (He.ga K "Slots") dx fs) ∧ fs.lookup ("home" : Str) = none := fun _ _ ⟨dx, v0, v1, v2, v3, h⟩ => ⟨dx, _, h, by kernel_rfl⟩
theorem gMSlots_move_next {K : PySem.W.Frag} : ∀ H a, ISlots K H a → ∃ dx fs, H a = some (.ins (He.ga K "Slots") dx fs) ∧ fs.lookup ("move_next" : Str) = none := fun _ _ ⟨dx, v0, v1, v2, v3, h⟩ => ⟨dx, _, h, by kernel_rfl⟩
theorem gMSlots_begin_row {K : PySem.W.Frag} : ∀ H a, ISlots K H a → ∃ dx fs, H a = some (.ins (He.ga K "Slots") dx fs) ∧ fs.lookup ("begin_row" : Str) = none := fun _ _ ⟨dx, v0, v1, v2, v3, h⟩ => ⟨dx, _, h, by kernel_rfl⟩
theorem gMSlots_put {K : PySem.W.Frag} : ∀ H a, ISlots K H a → ∃ dx fs, H a = some (.ins (He.ga K "Slots") dx fs) ∧ fs.lookup ("put" : Str) = none := fun _ _ ⟨dx, v0, v1, v2, v3, h⟩ => ⟨dx, _, h, by kernel_rfl⟩
theorem gMSlots_sure {K : PySem.W.Frag} : ∀ H a, ISlots K H a → ∃ dx fs, H a = some (.ins (He.ga K "Slots") dx fs) ∧ fs.lookup ("sure" : Str) = none := fun _ _ ⟨dx, v0, v1, v2, v3, h⟩ => ⟨dx, _, h, by kernel_rfl⟩
theorem gMSlots_drop {K : PySem.W.Frag} : ∀ H a, ISlots K H a → ∃ dx fs, H a = some (.ins (He.ga K "Slots") dx fs) ∧ fs.lookup ("drop" : Str) = none := fun _ _ ⟨dx, v0, v1, v2, v3, h⟩ => ⟨dx, _, h, by kernel_rfl⟩
theorem gMSlots_get {K : PySem.W.Frag} : ∀ H a, ISlots K H a → ∃ dx fs, H a = some (.ins (He.ga K "Slots") dx fs) ∧ fs.lookup ("get" : Str) = none := fun _ _ ⟨dx, v0, v1, v2, v3, h⟩ => ⟨dx, _, h, by kernel_rfl⟩
theorem gMSlots_has {K : PySem.W.Frag} : ∀ H a, ISlots K H a → ∃ dx fs, H a = some (.ins (He.ga K "Slots") dx fs) ∧ fs.lookup ("has" : Str) = none := fun _ _ ⟨dx, v0, v1, v2, v3, h⟩ => ⟨dx, _, h, by kernel_rfl⟩
theorem gMSlots_many {K : PySem.W.Frag} : ∀ H a, ISlots K H a → ∃ dx fs, H a = some (.ins (He.ga K "Slots") dx fs) ∧ fs.lookup ("many" : Str) = none := fun _ _ ⟨dx, v0, v1, v2, v3, h⟩ => ⟨dx, _, h, by kernel_rfl⟩
theorem gMSlots_rows {K : PySem.W.Frag} : ∀ H a, ISlots K H a → ∃ dx fs, H a = some (.ins (He.ga K "Slots") dx fs) ∧ fs.lookup ("rows" : Str) = none := fun _ _ ⟨dx, v0, v1, v2, v3, h⟩ => ⟨dx, _, h, by kernel_rfl⟩
theorem gMSlots_moved {K : PySem.W.Frag} : ∀ H a, ISlots K H a → ∃ dx fs, H a = some (.ins (He.ga K "Slots") dx fs) ∧ fs.lookup ("moved" : Str) = none := fun _ _ ⟨dx, v0, v1, v2, v3, h⟩ => ⟨dx, _, h, by kernel_rfl⟩
def flHouse (v0 v1 v2 v3 v4 v5 v6 v7 : V) : List (Str × V) := [("now", v0), ("floor", v1), ("slots", v2), ("leaves", v3), ("past", v4), ("pages", v5), ("marked", v6), ("holders", v7)]
def IHouse (K : PySem.W.Frag) : Hp → Addr → Prop := fun H a => ∃ dx v0 v1 v2 v3 v4 v5 v6 v7, H a = some (.ins (He.ga K "House") dx (flHouse v0 v1 v2 v3 v4 v5 v6 v7))
theorem lk_House_now {v0 v1 v2 v3 v4 v5 v6 v7 : V} : List.lookup ("now" : Str) (flHouse v0 v1 v2 v3 v4 v5 v6 v7) = some v0 := by kernel_rfl
theorem pf_House_now {v0 v1 v2 v3 v4 v5 v6 v7 v : V} : putF ("now" : Str) v (flHouse v0 v1 v2 v3 v4 v5 v6 v7) = flHouse v v1 v2 v3 v4 v5 v6 v7 := by kernel_rfl
def GHouse_now (K : PySem.W.Frag) : Hp → Addr → V → Prop := fun H a v => ∃ dx v1 v2 v3 v4 v5 v6 v7, H a = some (.ins (He.ga K "House") dx (flHouse v v1 v2 v3 v4 v5 v6 v7))
def SHouse_now (K : PySem.W.Frag) : Hp → Addr → V → Hp → Prop := fun H a v H2 => ∃ dx v0 v1 v2 v3 v4 v5 v6 v7, H a = some (.ins (He.ga K "House") dx (flHouse v0 v1 v2 v3 v4 v5 v6 v7)) ∧ H2 = upd H a (.ins (He.ga K "House") dx (flHouse v v1 v2 v3 v4 v5 v6 v7))
theorem gGHouse_now {K : PySem.W.Frag} : ∀ H a v, GHouse_now K H a v → ∃ dx fs, H a = some (.ins (He.ga K "House") dx fs) ∧ fs.lookup ("now" : Str) = some v := fun _ _ _ ⟨dx, v1, v2, v3, v4, v5, v6, v7, h⟩ => ⟨dx, _, h, lk_House_now⟩
theorem sGHouse_now {K : PySem.W.Frag} : ∀ H a v H2, SHouse_now K H a v H2 → ∃ dx fs, H a = some (.ins (He.ga K "House") dx fs) ∧ fs.length < 1000 ∧ H2 = upd H a (.ins (He.ga K "House") dx (putF "now" v fs)) := fun _ _ _ _ ⟨dx, v0, v1, v2, v3, v4, v5, v6, v7, h, e⟩ => ⟨dx, _, h, (by show 8 < 1000; decide), by rw [pf_House_now]; exact e⟩
theorem lk_House_floor {v0 v1 v2 v3 v4 v5 v6 v7 : V} : List.lookup ("floor" : Str) (flHouse v0 v1 v2 v3 v4 v5 v6 v7) = some v1 := by kernel_rfl
theorem pf_House_floor {v0 v1 v2 v3 v4 v5 v6 v7 v : V} : putF ("floor" : Str) v (flHouse v0 v1 v2 v3 v4 v5 v6 v7) = flHouse v0 v v2 v3 v4 v5 v6 v7 := by kernel_rfl
def GHouse_floor (K : PySem.W.Frag) : Hp → Addr → V → Prop := fun H a v => ∃ dx v0 v2 v3 v4 v5 v6 v7, H a = some (.ins (He.ga K "House") dx (flHouse v0 v v2 v3 v4 v5 v6 v7))
def SHouse_floor (K : PySem.W.Frag) : Hp → Addr → V → Hp → Prop := fun H a v H2 => ∃ dx v0 v1 v2 v3 v4 v5 v6 v7, H a = some (.ins (He.ga K "House") dx (flHouse v0 v1 v2 v3 v4 v5 v6 v7)) ∧ H2 = upd H a (.ins (He.ga K "House") dx (flHouse v0 v v2 v3 v4 v5 v6 v7))
theorem gGHouse_floor {K : PySem.W.Frag} : ∀ H a v, GHouse_floor K H a v → ∃ dx fs, H a = some (.ins (He.ga K "House") dx fs) ∧ fs.lookup ("floor" : Str) = some v := fun _ _ _ ⟨dx, v0, v2, v3, v4, v5, v6, v7, h⟩ => ⟨dx, _, h, lk_House_floor⟩
theorem sGHouse_floor {K : PySem.W.Frag} : ∀ H a v H2, SHouse_floor K H a v H2 → ∃ dx fs, H a = some (.ins (He.ga K "House") dx fs) ∧ fs.length < 1000 ∧ H2 = upd H a (.ins (He.ga K "House") dx (putF "floor" v fs)) := fun _ _ _ _ ⟨dx, v0, v1, v2, v3, v4, v5, v6, v7, h, e⟩ => ⟨dx, _, h, (by show 8 < 1000; decide), by rw [pf_House_floor]; exact e⟩
theorem lk_House_slots {v0 v1 v2 v3 v4 v5 v6 v7 : V} : List.lookup ("slots" : Str) (flHouse v0 v1 v2 v3 v4 v5 v6 v7) = some v2 := by kernel_rfl
theorem pf_House_slots {v0 v1 v2 v3 v4 v5 v6 v7 v : V} : putF ("slots" : Str) v (flHouse v0 v1 v2 v3 v4 v5 v6 v7) = flHouse v0 v1 v v3 v4 v5 v6 v7 := by kernel_rfl
def GHouse_slots (K : PySem.W.Frag) : Hp → Addr → V → Prop := fun H a v => ∃ dx v0 v1 v3 v4 v5 v6 v7, H a = some (.ins (He.ga K "House") dx (flHouse v0 v1 v v3 v4 v5 v6 v7))
def SHouse_slots (K : PySem.W.Frag) : Hp → Addr → V → Hp → Prop := fun H a v H2 => ∃ dx v0 v1 v2 v3 v4 v5 v6 v7, H a = some (.ins (He.ga K "House") dx (flHouse v0 v1 v2 v3 v4 v5 v6 v7)) ∧ H2 = upd H a (.ins (He.ga K "House") dx (flHouse v0 v1 v v3 v4 v5 v6 v7))
theorem gGHouse_slots {K : PySem.W.Frag} : ∀ H a v, GHouse_slots K H a v → ∃ dx fs, H a = some (.ins (He.ga K "House") dx fs) ∧ fs.lookup ("slots" : Str) = some v := fun _ _ _ ⟨dx, v0, v1, v3, v4, v5, v6, v7, h⟩ => ⟨dx, _, h, lk_House_slots⟩
theorem sGHouse_slots {K : PySem.W.Frag} : ∀ H a v H2, SHouse_slots K H a v H2 → ∃ dx fs, H a = some (.ins (He.ga K "House") dx fs) ∧ fs.length < 1000 ∧ H2 = upd H a (.ins (He.ga K "House") dx (putF "slots" v fs)) := fun _ _ _ _ ⟨dx, v0, v1, v2, v3, v4, v5, v6, v7, h, e⟩ => ⟨dx, _, h, (by show 8 < 1000; decide), by rw [pf_House_slots]; exact e⟩
theorem lk_House_leaves {v0 v1 v2 v3 v4 v5 v6 v7 : V} : List.lookup ("leaves" : Str) (flHouse v0 v1 v2 v3 v4 v5 v6 v7) = some v3 := by kernel_rfl
theorem pf_House_leaves {v0 v1 v2 v3 v4 v5 v6 v7 v : V} : putF ("leaves" : Str) v (flHouse v0 v1 v2 v3 v4 v5 v6 v7) = flHouse v0 v1 v2 v v4 v5 v6 v7 := by kernel_rfl
def GHouse_leaves (K : PySem.W.Frag) : Hp → Addr → V → Prop := fun H a v => ∃ dx v0 v1 v2 v4 v5 v6 v7, H a = some (.ins (He.ga K "House") dx (flHouse v0 v1 v2 v v4 v5 v6 v7))
def SHouse_leaves (K : PySem.W.Frag) : Hp → Addr → V → Hp → Prop := fun H a v H2 => ∃ dx v0 v1 v2 v3 v4 v5 v6 v7, H a = some (.ins (He.ga K "House") dx (flHouse v0 v1 v2 v3 v4 v5 v6 v7)) ∧ H2 = upd H a (.ins (He.ga K "House") dx (flHouse v0 v1 v2 v v4 v5 v6 v7))
theorem gGHouse_leaves {K : PySem.W.Frag} : ∀ H a v, GHouse_leaves K H a v → ∃ dx fs, H a = some (.ins (He.ga K "House") dx fs) ∧ fs.lookup ("leaves" : Str) = some v := fun _ _ _ ⟨dx, v0, v1, v2, v4, v5, v6, v7, h⟩ => ⟨dx, _, h, lk_House_leaves⟩
theorem sGHouse_leaves {K : PySem.W.Frag} : ∀ H a v H2, SHouse_leaves K H a v H2 → ∃ dx fs, H a = some (.ins (He.ga K "House") dx fs) ∧ fs.length < 1000 ∧ H2 = upd H a (.ins (He.ga K "House") dx (putF "leaves" v fs)) := fun _ _ _ _ ⟨dx, v0, v1, v2, v3, v4, v5, v6, v7, h, e⟩ => ⟨dx, _, h, (by show 8 < 1000; decide), by rw [pf_House_leaves]; exact e⟩
theorem lk_House_past {v0 v1 v2 v3 v4 v5 v6 v7 : V} : List.lookup ("past" : Str) (flHouse v0 v1 v2 v3 v4 v5 v6 v7) = some v4 := by kernel_rfl
theorem pf_House_past {v0 v1 v2 v3 v4 v5 v6 v7 v : V} : putF ("past" : Str) v (flHouse v0 v1 v2 v3 v4 v5 v6 v7) = flHouse v0 v1 v2 v3 v v5 v6 v7 := by kernel_rfl
def GHouse_past (K : PySem.W.Frag) : Hp → Addr → V → Prop := fun H a v => ∃ dx v0 v1 v2 v3 v5 v6 v7, H a = some (.ins (He.ga K "House") dx (flHouse v0 v1 v2 v3 v v5 v6 v7))
def SHouse_past (K : PySem.W.Frag) : Hp → Addr → V → Hp → Prop := fun H a v H2 => ∃ dx v0 v1 v2 v3 v4 v5 v6 v7, H a = some (.ins (He.ga K "House") dx (flHouse v0 v1 v2 v3 v4 v5 v6 v7)) ∧ H2 = upd H a (.ins (He.ga K "House") dx (flHouse v0 v1 v2 v3 v v5 v6 v7))
theorem gGHouse_past {K : PySem.W.Frag} : ∀ H a v, GHouse_past K H a v → ∃ dx fs, H a = some (.ins (He.ga K "House") dx fs) ∧ fs.lookup ("past" : Str) = some v := fun _ _ _ ⟨dx, v0, v1, v2, v3, v5, v6, v7, h⟩ => ⟨dx, _, h, lk_House_past⟩
theorem sGHouse_past {K : PySem.W.Frag} : ∀ H a v H2, SHouse_past K H a v H2 → ∃ dx fs, H a = some (.ins (He.ga K "House") dx fs) ∧ fs.length < 1000 ∧ H2 = upd H a (.ins (He.ga K "House") dx (putF "past" v fs)) := fun _ _ _ _ ⟨dx, v0, v1, v2, v3, v4, v5, v6, v7, h, e⟩ => ⟨dx, _, h, (by show 8 < 1000; decide), by rw [pf_House_past]; exact e⟩
theorem lk_House_pages {v0 v1 v2 v3 v4 v5 v6 v7 : V} : List.lookup ("pages" : Str) (flHouse v0 v1 v2 v3 v4 v5 v6 v7) = some v5 := by kernel_rfl
theorem pf_House_pages {v0 v1 v2 v3 v4 v5 v6 v7 v : V} : putF ("pages" : Str) v (flHouse v0 v1 v2 v3 v4 v5 v6 v7) = flHouse v0 v1 v2 v3 v4 v v6 v7 := by kernel_rfl
def GHouse_pages (K : PySem.W.Frag) : Hp → Addr → V → Prop := fun H a v => ∃ dx v0 v1 v2 v3 v4 v6 v7, H a = some (.ins (He.ga K "House") dx (flHouse v0 v1 v2 v3 v4 v v6 v7))
def SHouse_pages (K : PySem.W.Frag) : Hp → Addr → V → Hp → Prop := fun H a v H2 => ∃ dx v0 v1 v2 v3 v4 v5 v6 v7, H a = some (.ins (He.ga K "House") dx (flHouse v0 v1 v2 v3 v4 v5 v6 v7)) ∧ H2 = upd H a (.ins (He.ga K "House") dx (flHouse v0 v1 v2 v3 v4 v v6 v7))
theorem gGHouse_pages {K : PySem.W.Frag} : ∀ H a v, GHouse_pages K H a v → ∃ dx fs, H a = some (.ins (He.ga K "House") dx fs) ∧ fs.lookup ("pages" : Str) = some v := fun _ _ _ ⟨dx, v0, v1, v2, v3, v4, v6, v7, h⟩ => ⟨dx, _, h, lk_House_pages⟩
theorem sGHouse_pages {K : PySem.W.Frag} : ∀ H a v H2, SHouse_pages K H a v H2 → ∃ dx fs, H a = some (.ins (He.ga K "House") dx fs) ∧ fs.length < 1000 ∧ H2 = upd H a (.ins (He.ga K "House") dx (putF "pages" v fs)) := fun _ _ _ _ ⟨dx, v0, v1, v2, v3, v4, v5, v6, v7, h, e⟩ => ⟨dx, _, h, (by show 8 < 1000; decide), by rw [pf_House_pages]; exact e⟩
theorem lk_House_marked {v0 v1 v2 v3 v4 v5 v6 v7 : V} : List.lookup ("marked" : Str) (flHouse v0 v1 v2 v3 v4 v5 v6 v7) = some v6 := by kernel_rfl
theorem pf_House_marked {v0 v1 v2 v3 v4 v5 v6 v7 v : V} : putF ("marked" : Str) v (flHouse v0 v1 v2 v3 v4 v5 v6 v7) = flHouse v0 v1 v2 v3 v4 v5 v v7 := by kernel_rfl
def GHouse_marked (K : PySem.W.Frag) : Hp → Addr → V → Prop := fun H a v => ∃ dx v0 v1 v2 v3 v4 v5 v7, H a = some (.ins (He.ga K "House") dx (flHouse v0 v1 v2 v3 v4 v5 v v7))
def SHouse_marked (K : PySem.W.Frag) : Hp → Addr → V → Hp → Prop := fun H a v H2 => ∃ dx v0 v1 v2 v3 v4 v5 v6 v7, H a = some (.ins (He.ga K "House") dx (flHouse v0 v1 v2 v3 v4 v5 v6 v7)) ∧ H2 = upd H a (.ins (He.ga K "House") dx (flHouse v0 v1 v2 v3 v4 v5 v v7))
theorem gGHouse_marked {K : PySem.W.Frag} : ∀ H a v, GHouse_marked K H a v → ∃ dx fs, H a = some (.ins (He.ga K "House") dx fs) ∧ fs.lookup ("marked" : Str) = some v := fun _ _ _ ⟨dx, v0, v1, v2, v3, v4, v5, v7, h⟩ => ⟨dx, _, h, lk_House_marked⟩
theorem sGHouse_marked {K : PySem.W.Frag} : ∀ H a v H2, SHouse_marked K H a v H2 → ∃ dx fs, H a = some (.ins (He.ga K "House") dx fs) ∧ fs.length < 1000 ∧ H2 = upd H a (.ins (He.ga K "House") dx (putF "marked" v fs)) := fun _ _ _ _ ⟨dx, v0, v1, v2, v3, v4, v5, v6, v7, h, e⟩ => ⟨dx, _, h, (by show 8 < 1000; decide), by rw [pf_House_marked]; exact e⟩
theorem lk_House_holders {v0 v1 v2 v3 v4 v5 v6 v7 : V} : List.lookup ("holders" : Str) (flHouse v0 v1 v2 v3 v4 v5 v6 v7) = some v7 := by kernel_rfl
theorem pf_House_holders {v0 v1 v2 v3 v4 v5 v6 v7 v : V} : putF ("holders" : Str) v (flHouse v0 v1 v2 v3 v4 v5 v6 v7) = flHouse v0 v1 v2 v3 v4 v5 v6 v := by kernel_rfl
def GHouse_holders (K : PySem.W.Frag) : Hp → Addr → V → Prop := fun H a v => ∃ dx v0 v1 v2 v3 v4 v5 v6, H a = some (.ins (He.ga K "House") dx (flHouse v0 v1 v2 v3 v4 v5 v6 v))
def SHouse_holders (K : PySem.W.Frag) : Hp → Addr → V → Hp → Prop := fun H a v H2 => ∃ dx v0 v1 v2 v3 v4 v5 v6 v7, H a = some (.ins (He.ga K "House") dx (flHouse v0 v1 v2 v3 v4 v5 v6 v7)) ∧ H2 = upd H a (.ins (He.ga K "House") dx (flHouse v0 v1 v2 v3 v4 v5 v6 v))
theorem gGHouse_holders {K : PySem.W.Frag} : ∀ H a v, GHouse_holders K H a v → ∃ dx fs, H a = some (.ins (He.ga K "House") dx fs) ∧ fs.lookup ("holders" : Str) = some v := fun _ _ _ ⟨dx, v0, v1, v2, v3, v4, v5, v6, h⟩ => ⟨dx, _, h, lk_House_holders⟩
theorem sGHouse_holders {K : PySem.W.Frag} : ∀ H a v H2, SHouse_holders K H a v H2 → ∃ dx fs, H a = some (.ins (He.ga K "House") dx fs) ∧ fs.length < 1000 ∧ H2 = upd H a (.ins (He.ga K "House") dx (putF "holders" v fs)) := fun _ _ _ _ ⟨dx, v0, v1, v2, v3, v4, v5, v6, v7, h, e⟩ => ⟨dx, _, h, (by show 8 < 1000; decide), by rw [pf_House_holders]; exact e⟩
theorem in_House {v0 v1 v2 v3 v4 v5 v6 v7 : V} : putF ("holders" : Str) v7 (putF ("marked" : Str) v6 (putF ("pages" : Str) v5 (putF ("past" : Str) v4 (putF ("leaves" : Str) v3 (putF ("slots" : Str) v2 (putF ("floor" : Str) v1 (putF ("now" : Str) v0 ([])))))))) = flHouse v0 v1 v2 v3 v4 v5 v6 v7 := by kernel_rfl
theorem gMHouse_done {K : PySem.W.Frag} : ∀ H a, IHouse K H a → ∃ dx fs, H a = some (.ins (He.ga K "House") dx fs) ∧ fs.lookup ("done" : Str) = none := fun _ _ ⟨dx, v0, v1, v2, v3, v4, v5, v6, v7, h⟩ => ⟨dx, _, h, by kernel_rfl⟩
theorem gMHouse_put {K : PySem.W.Frag} : ∀ H a, IHouse K H a → ∃ dx fs, H a = some (.ins (He.ga K "House") dx fs) ∧ fs.lookup ("put" : Str) = none := fun _ _ ⟨dx, v0, v1, v2, v3, v4, v5, v6, v7, h⟩ => ⟨dx, _, h, by kernel_rfl⟩
theorem gMHouse_drop {K : PySem.W.Frag} : ∀ H a, IHouse K H a → ∃ dx fs, H a = some (.ins (He.ga K "House") dx fs) ∧ fs.lookup ("drop" : Str) = none := fun _ _ ⟨dx, v0, v1, v2, v3, v4, v5, v6, v7, h⟩ => ⟨dx, _, h, by kernel_rfl⟩
theorem gMHouse_get {K : PySem.W.Frag} : ∀ H a, IHouse K H a → ∃ dx fs, H a = some (.ins (He.ga K "House") dx fs) ∧ fs.lookup ("get" : Str) = none := fun _ _ ⟨dx, v0, v1, v2, v3, v4, v5, v6, v7, h⟩ => ⟨dx, _, h, by kernel_rfl⟩
theorem gMHouse_has {K : PySem.W.Frag} : ∀ H a, IHouse K H a → ∃ dx fs, H a = some (.ins (He.ga K "House") dx fs) ∧ fs.lookup ("has" : Str) = none := fun _ _ ⟨dx, v0, v1, v2, v3, v4, v5, v6, v7, h⟩ => ⟨dx, _, h, by kernel_rfl⟩
theorem gMHouse_many {K : PySem.W.Frag} : ∀ H a, IHouse K H a → ∃ dx fs, H a = some (.ins (He.ga K "House") dx fs) ∧ fs.lookup ("many" : Str) = none := fun _ _ ⟨dx, v0, v1, v2, v3, v4, v5, v6, v7, h⟩ => ⟨dx, _, h, by kernel_rfl⟩
theorem gMHouse_lay_mark {K : PySem.W.Frag} : ∀ H a, IHouse K H a → ∃ dx fs, H a = some (.ins (He.ga K "House") dx fs) ∧ fs.lookup ("lay_mark" : Str) = none := fun _ _ ⟨dx, v0, v1, v2, v3, v4, v5, v6, v7, h⟩ => ⟨dx, _, h, by kernel_rfl⟩
theorem gMHouse_diary {K : PySem.W.Frag} : ∀ H a, IHouse K H a → ∃ dx fs, H a = some (.ins (He.ga K "House") dx fs) ∧ fs.lookup ("diary" : Str) = none := fun _ _ ⟨dx, v0, v1, v2, v3, v4, v5, v6, v7, h⟩ => ⟨dx, _, h, by kernel_rfl⟩
theorem gMHouse_makes {K : PySem.W.Frag} : ∀ H a, IHouse K H a → ∃ dx fs, H a = some (.ins (He.ga K "House") dx fs) ∧ fs.lookup ("makes" : Str) = none := fun _ _ ⟨dx, v0, v1, v2, v3, v4, v5, v6, v7, h⟩ => ⟨dx, _, h, by kernel_rfl⟩
theorem gMHouse_hold {K : PySem.W.Frag} : ∀ H a, IHouse K H a → ∃ dx fs, H a = some (.ins (He.ga K "House") dx fs) ∧ fs.lookup ("hold" : Str) = none := fun _ _ ⟨dx, v0, v1, v2, v3, v4, v5, v6, v7, h⟩ => ⟨dx, _, h, by kernel_rfl⟩
theorem gMHouse_let_go {K : PySem.W.Frag} : ∀ H a, IHouse K H a → ∃ dx fs, H a = some (.ins (He.ga K "House") dx fs) ∧ fs.lookup ("let_go" : Str) = none := fun _ _ ⟨dx, v0, v1, v2, v3, v4, v5, v6, v7, h⟩ => ⟨dx, _, h, by kernel_rfl⟩
theorem gMHouse_held {K : PySem.W.Frag} : ∀ H a, IHouse K H a → ∃ dx fs, H a = some (.ins (He.ga K "House") dx fs) ∧ fs.lookup ("held" : Str) = none := fun _ _ ⟨dx, v0, v1, v2, v3, v4, v5, v6, v7, h⟩ => ⟨dx, _, h, by kernel_rfl⟩
theorem gMHouse_sweep {K : PySem.W.Frag} : ∀ H a, IHouse K H a → ∃ dx fs, H a = some (.ins (He.ga K "House") dx fs) ∧ fs.lookup ("sweep" : Str) = none := fun _ _ ⟨dx, v0, v1, v2, v3, v4, v5, v6, v7, h⟩ => ⟨dx, _, h, by kernel_rfl⟩
theorem gMHouse_ask_moment {K : PySem.W.Frag} : ∀ H a, IHouse K H a → ∃ dx fs, H a = some (.ins (He.ga K "House") dx fs) ∧ fs.lookup ("ask_moment" : Str) = none := fun _ _ ⟨dx, v0, v1, v2, v3, v4, v5, v6, v7, h⟩ => ⟨dx, _, h, by kernel_rfl⟩
theorem gMHouse_was {K : PySem.W.Frag} : ∀ H a, IHouse K H a → ∃ dx fs, H a = some (.ins (He.ga K "House") dx fs) ∧ fs.lookup ("was" : Str) = none := fun _ _ ⟨dx, v0, v1, v2, v3, v4, v5, v6, v7, h⟩ => ⟨dx, _, h, by kernel_rfl⟩
section
variable {X : Cx} {e o value : Expr} {pos pos2 apos tpos : Pos} {ta tv to : TE} {t : TA} {es : List Expr} {k j : Nat} {ps : List Str} {dvs : List V} {sp : Sp} {E : XK} {pl : Sem Bool} {op : Operator} {rd : V → V → Hp → VK → Prop}
theorem pe_Leaves_parted (T : Txt X.K X.mg) (he : PE X e ta) (hb : attributeBase e "parted" X.env (eval e X.env) = eval e X.env := by rfl) : PE X (.Attribute e "parted" pos) (tG (GLeaves_parted X.K) ta) := pe_G he T.cls_Leaves T.no_Leaves_parted gGLeaves_parted hb
theorem ps_Leaves_parted (T : Txt X.K X.mg) (ha : PE X o ta) (hv : PE X value tv) (hs : swapsWith value (some (.Attribute o "parted" pos2)) pos.line X.env = pure false := by rfl) : PS X (.Assign [.Attribute o "parted" pos2] value pos) (sG (SLeaves_parted X.K) ta tv) := ps_G ha hv T.cls_Leaves T.no_Leaves_parted sGLeaves_parted hs
theorem pa_Leaves_parted (T : Txt X.K X.mg) (ha : PE X o ta) (hv : PE X value tv) (hop : InOp X op rd) : PS X (.AugAssign (.Attribute o "parted" tpos) op value pos) (sGA (GLeaves_parted X.K) (SLeaves_parted X.K) rd ta tv) := ps_GA ha hv hop T.cls_Leaves T.no_Leaves_parted gGLeaves_parted sGLeaves_parted
theorem pe_Makes_by_key (T : Txt X.K X.mg) (he : PE X e ta) (hb : attributeBase e "by_key" X.env (eval e X.env) = eval e X.env := by rfl) : PE X (.Attribute e "by_key" pos) (tG (GMakes_by_key X.K) ta) := pe_G he T.cls_Makes T.no_Makes_by_key gGMakes_by_key hb
theorem ps_Makes_by_key (T : Txt X.K X.mg) (ha : PE X o ta) (hv : PE X value tv) (hs : swapsWith value (some (.Attribute o "by_key" pos2)) pos.line X.env = pure false := by rfl) : PS X (.Assign [.Attribute o "by_key" pos2] value pos) (sG (SMakes_by_key X.K) ta tv) := ps_G ha hv T.cls_Makes T.no_Makes_by_key sGMakes_by_key hs
theorem pa_Makes_by_key (T : Txt X.K X.mg) (ha : PE X o ta) (hv : PE X value tv) (hop : InOp X op rd) : PS X (.AugAssign (.Attribute o "by_key" tpos) op value pos) (sGA (GMakes_by_key X.K) (SMakes_by_key X.K) rd ta tv) := ps_GA ha hv hop T.cls_Makes T.no_Makes_by_key gGMakes_by_key sGMakes_by_key
theorem pe_Bank_size (T : Txt X.K X.mg) (he : PE X e ta) (hb : attributeBase e "size" X.env (eval e X.env) = eval e X.env := by rfl) : PE X (.Attribute e "size" pos) (tG (GBank_size X.K) ta) := pe_G he T.cls_Bank T.no_Bank_size gGBank_size hb
theorem ps_Bank_size (T : Txt X.K X.mg) (ha : PE X o ta) (hv : PE X value tv) (hs : swapsWith value (some (.Attribute o "size" pos2)) pos.line X.env = pure false := by rfl) : PS X (.Assign [.Attribute o "size" pos2] value pos) (sG (SBank_size X.K) ta tv) := ps_G ha hv T.cls_Bank T.no_Bank_size sGBank_size hs
theorem pa_Bank_size (T : Txt X.K X.mg) (ha : PE X o ta) (hv : PE X value tv) (hop : InOp X op rd) : PS X (.AugAssign (.Attribute o "size" tpos) op value pos) (sGA (GBank_size X.K) (SBank_size X.K) rd ta tv) := ps_GA ha hv hop T.cls_Bank T.no_Bank_size gGBank_size sGBank_size
theorem pe_Bank_lots (T : Txt X.K X.mg) (he : PE X e ta) (hb : attributeBase e "lots" X.env (eval e X.env) = eval e X.env := by rfl) : PE X (.Attribute e "lots" pos) (tG (GBank_lots X.K) ta) := pe_G he T.cls_Bank T.no_Bank_lots gGBank_lots hb
theorem ps_Bank_lots (T : Txt X.K X.mg) (ha : PE X o ta) (hv : PE X value tv) (hs : swapsWith value (some (.Attribute o "lots" pos2)) pos.line X.env = pure false := by rfl) : PS X (.Assign [.Attribute o "lots" pos2] value pos) (sG (SBank_lots X.K) ta tv) := ps_G ha hv T.cls_Bank T.no_Bank_lots sGBank_lots hs
theorem pa_Bank_lots (T : Txt X.K X.mg) (ha : PE X o ta) (hv : PE X value tv) (hop : InOp X op rd) : PS X (.AugAssign (.Attribute o "lots" tpos) op value pos) (sGA (GBank_lots X.K) (SBank_lots X.K) rd ta tv) := ps_GA ha hv hop T.cls_Bank T.no_Bank_lots gGBank_lots sGBank_lots
theorem pe_Slots_old (T : Txt X.K X.mg) (he : PE X e ta) (hb : attributeBase e "old" X.env (eval e X.env) = eval e X.env := by rfl) : PE X (.Attribute e "old" pos) (tG (GSlots_old X.K) ta) := pe_G he T.cls_Slots T.no_Slots_old gGSlots_old hb
theorem ps_Slots_old (T : Txt X.K X.mg) (ha : PE X o ta) (hv : PE X value tv) (hs : swapsWith value (some (.Attribute o "old" pos2)) pos.line X.env = pure false := by rfl) : PS X (.Assign [.Attribute o "old" pos2] value pos) (sG (SSlots_old X.K) ta tv) := ps_G ha hv T.cls_Slots T.no_Slots_old sGSlots_old hs
theorem pa_Slots_old (T : Txt X.K X.mg) (ha : PE X o ta) (hv : PE X value tv) (hop : InOp X op rd) : PS X (.AugAssign (.Attribute o "old" tpos) op value pos) (sGA (GSlots_old X.K) (SSlots_old X.K) rd ta tv) := ps_GA ha hv hop T.cls_Slots T.no_Slots_old gGSlots_old sGSlots_old
theorem pe_Slots_young (T : Txt X.K X.mg) (he : PE X e ta) (hb : attributeBase e "young" X.env (eval e X.env) = eval e X.env := by rfl) : PE X (.Attribute e "young" pos) (tG (GSlots_young X.K) ta) := pe_G he T.cls_Slots T.no_Slots_young gGSlots_young hb
theorem ps_Slots_young (T : Txt X.K X.mg) (ha : PE X o ta) (hv : PE X value tv) (hs : swapsWith value (some (.Attribute o "young" pos2)) pos.line X.env = pure false := by rfl) : PS X (.Assign [.Attribute o "young" pos2] value pos) (sG (SSlots_young X.K) ta tv) := ps_G ha hv T.cls_Slots T.no_Slots_young sGSlots_young hs
theorem pa_Slots_young (T : Txt X.K X.mg) (ha : PE X o ta) (hv : PE X value tv) (hop : InOp X op rd) : PS X (.AugAssign (.Attribute o "young" tpos) op value pos) (sGA (GSlots_young X.K) (SSlots_young X.K) rd ta tv) := ps_GA ha hv hop T.cls_Slots T.no_Slots_young gGSlots_young sGSlots_young
theorem pe_Slots_shifted (T : Txt X.K X.mg) (he : PE X e ta) (hb : attributeBase e "shifted" X.env (eval e X.env) = eval e X.env := by rfl) : PE X (.Attribute e "shifted" pos) (tG (GSlots_shifted X.K) ta) := pe_G he T.cls_Slots T.no_Slots_shifted gGSlots_shifted hb
theorem ps_Slots_shifted (T : Txt X.K X.mg) (ha : PE X o ta) (hv : PE X value tv) (hs : swapsWith value (some (.Attribute o "shifted" pos2)) pos.line X.env = pure false := by rfl) : PS X (.Assign [.Attribute o "shifted" pos2] value pos) (sG (SSlots_shifted X.K) ta tv) := ps_G ha hv T.cls_Slots T.no_Slots_shifted sGSlots_shifted hs
theorem pa_Slots_shifted (T : Txt X.K X.mg) (ha : PE X o ta) (hv : PE X value tv) (hop : InOp X op rd) : PS X (.AugAssign (.Attribute o "shifted" tpos) op value pos) (sGA (GSlots_shifted X.K) (SSlots_shifted X.K) rd ta tv) := ps_GA ha hv hop T.cls_Slots T.no_Slots_shifted gGSlots_shifted sGSlots_shifted
theorem pe_Slots_number (T : Txt X.K X.mg) (he : PE X e ta) (hb : attributeBase e "number" X.env (eval e X.env) = eval e X.env := by rfl) : PE X (.Attribute e "number" pos) (tG (GSlots_number X.K) ta) := pe_G he T.cls_Slots T.no_Slots_number gGSlots_number hb
theorem ps_Slots_number (T : Txt X.K X.mg) (ha : PE X o ta) (hv : PE X value tv) (hs : swapsWith value (some (.Attribute o "number" pos2)) pos.line X.env = pure false := by rfl) : PS X (.Assign [.Attribute o "number" pos2] value pos) (sG (SSlots_number X.K) ta tv) := ps_G ha hv T.cls_Slots T.no_Slots_number sGSlots_number hs
theorem pa_Slots_number (T : Txt X.K X.mg) (ha : PE X o ta) (hv : PE X value tv) (hop : InOp X op rd) : PS X (.AugAssign (.Attribute o "number" tpos) op value pos) (sGA (GSlots_number X.K) (SSlots_number X.K) rd ta tv) := ps_GA ha hv hop T.cls_Slots T.no_Slots_number gGSlots_number sGSlots_number
theorem pe_House_now (T : Txt X.K X.mg) (he : PE X e ta) (hb : attributeBase e "now" X.env (eval e X.env) = eval e X.env := by rfl) : PE X (.Attribute e "now" pos) (tG (GHouse_now X.K) ta) := pe_G he T.cls_House T.no_House_now gGHouse_now hb
theorem ps_House_now (T : Txt X.K X.mg) (ha : PE X o ta) (hv : PE X value tv) (hs : swapsWith value (some (.Attribute o "now" pos2)) pos.line X.env = pure false := by rfl) : PS X (.Assign [.Attribute o "now" pos2] value pos) (sG (SHouse_now X.K) ta tv) := ps_G ha hv T.cls_House T.no_House_now sGHouse_now hs
theorem pa_House_now (T : Txt X.K X.mg) (ha : PE X o ta) (hv : PE X value tv) (hop : InOp X op rd) : PS X (.AugAssign (.Attribute o "now" tpos) op value pos) (sGA (GHouse_now X.K) (SHouse_now X.K) rd ta tv) := ps_GA ha hv hop T.cls_House T.no_House_now gGHouse_now sGHouse_now
theorem pe_House_floor (T : Txt X.K X.mg) (he : PE X e ta) (hb : attributeBase e "floor" X.env (eval e X.env) = eval e X.env := by rfl) : PE X (.Attribute e "floor" pos) (tG (GHouse_floor X.K) ta) := pe_G he T.cls_House T.no_House_floor gGHouse_floor hb
theorem ps_House_floor (T : Txt X.K X.mg) (ha : PE X o ta) (hv : PE X value tv) (hs : swapsWith value (some (.Attribute o "floor" pos2)) pos.line X.env = pure false := by rfl) : PS X (.Assign [.Attribute o "floor" pos2] value pos) (sG (SHouse_floor X.K) ta tv) := ps_G ha hv T.cls_House T.no_House_floor sGHouse_floor hs
theorem pa_House_floor (T : Txt X.K X.mg) (ha : PE X o ta) (hv : PE X value tv) (hop : InOp X op rd) : PS X (.AugAssign (.Attribute o "floor" tpos) op value pos) (sGA (GHouse_floor X.K) (SHouse_floor X.K) rd ta tv) := ps_GA ha hv hop T.cls_House T.no_House_floor gGHouse_floor sGHouse_floor
theorem pe_House_slots (T : Txt X.K X.mg) (he : PE X e ta) (hb : attributeBase e "slots" X.env (eval e X.env) = eval e X.env := by rfl) : PE X (.Attribute e "slots" pos) (tG (GHouse_slots X.K) ta) := pe_G he T.cls_House T.no_House_slots gGHouse_slots hb
theorem ps_House_slots (T : Txt X.K X.mg) (ha : PE X o ta) (hv : PE X value tv) (hs : swapsWith value (some (.Attribute o "slots" pos2)) pos.line X.env = pure false := by rfl) : PS X (.Assign [.Attribute o "slots" pos2] value pos) (sG (SHouse_slots X.K) ta tv) := ps_G ha hv T.cls_House T.no_House_slots sGHouse_slots hs
theorem pa_House_slots (T : Txt X.K X.mg) (ha : PE X o ta) (hv : PE X value tv) (hop : InOp X op rd) : PS X (.AugAssign (.Attribute o "slots" tpos) op value pos) (sGA (GHouse_slots X.K) (SHouse_slots X.K) rd ta tv) := ps_GA ha hv hop T.cls_House T.no_House_slots gGHouse_slots sGHouse_slots
theorem pe_House_leaves (T : Txt X.K X.mg) (he : PE X e ta) (hb : attributeBase e "leaves" X.env (eval e X.env) = eval e X.env := by rfl) : PE X (.Attribute e "leaves" pos) (tG (GHouse_leaves X.K) ta) := pe_G he T.cls_House T.no_House_leaves gGHouse_leaves hb
theorem ps_House_leaves (T : Txt X.K X.mg) (ha : PE X o ta) (hv : PE X value tv) (hs : swapsWith value (some (.Attribute o "leaves" pos2)) pos.line X.env = pure false := by rfl) : PS X (.Assign [.Attribute o "leaves" pos2] value pos) (sG (SHouse_leaves X.K) ta tv) := ps_G ha hv T.cls_House T.no_House_leaves sGHouse_leaves hs
theorem pa_House_leaves (T : Txt X.K X.mg) (ha : PE X o ta) (hv : PE X value tv) (hop : InOp X op rd) : PS X (.AugAssign (.Attribute o "leaves" tpos) op value pos) (sGA (GHouse_leaves X.K) (SHouse_leaves X.K) rd ta tv) := ps_GA ha hv hop T.cls_House T.no_House_leaves gGHouse_leaves sGHouse_leaves
theorem pe_House_past (T : Txt X.K X.mg) (he : PE X e ta) (hb : attributeBase e "past" X.env (eval e X.env) = eval e X.env := by rfl) : PE X (.Attribute e "past" pos) (tG (GHouse_past X.K) ta) := pe_G he T.cls_House T.no_House_past gGHouse_past hb
theorem ps_House_past (T : Txt X.K X.mg) (ha : PE X o ta) (hv : PE X value tv) (hs : swapsWith value (some (.Attribute o "past" pos2)) pos.line X.env = pure false := by rfl) : PS X (.Assign [.Attribute o "past" pos2] value pos) (sG (SHouse_past X.K) ta tv) := ps_G ha hv T.cls_House T.no_House_past sGHouse_past hs
theorem pa_House_past (T : Txt X.K X.mg) (ha : PE X o ta) (hv : PE X value tv) (hop : InOp X op rd) : PS X (.AugAssign (.Attribute o "past" tpos) op value pos) (sGA (GHouse_past X.K) (SHouse_past X.K) rd ta tv) := ps_GA ha hv hop T.cls_House T.no_House_past gGHouse_past sGHouse_past
theorem pe_House_pages (T : Txt X.K X.mg) (he : PE X e ta) (hb : attributeBase e "pages" X.env (eval e X.env) = eval e X.env := by rfl) : PE X (.Attribute e "pages" pos) (tG (GHouse_pages X.K) ta) := pe_G he T.cls_House T.no_House_pages gGHouse_pages hb
theorem ps_House_pages (T : Txt X.K X.mg) (ha : PE X o ta) (hv : PE X value tv) (hs : swapsWith value (some (.Attribute o "pages" pos2)) pos.line X.env = pure false := by rfl) : PS X (.Assign [.Attribute o "pages" pos2] value pos) (sG (SHouse_pages X.K) ta tv) := ps_G ha hv T.cls_House T.no_House_pages sGHouse_pages hs
theorem pa_House_pages (T : Txt X.K X.mg) (ha : PE X o ta) (hv : PE X value tv) (hop : InOp X op rd) : PS X (.AugAssign (.Attribute o "pages" tpos) op value pos) (sGA (GHouse_pages X.K) (SHouse_pages X.K) rd ta tv) := ps_GA ha hv hop T.cls_House T.no_House_pages gGHouse_pages sGHouse_pages
theorem pe_House_marked (T : Txt X.K X.mg) (he : PE X e ta) (hb : attributeBase e "marked" X.env (eval e X.env) = eval e X.env := by rfl) : PE X (.Attribute e "marked" pos) (tG (GHouse_marked X.K) ta) := pe_G he T.cls_House T.no_House_marked gGHouse_marked hb
theorem ps_House_marked (T : Txt X.K X.mg) (ha : PE X o ta) (hv : PE X value tv) (hs : swapsWith value (some (.Attribute o "marked" pos2)) pos.line X.env = pure false := by rfl) : PS X (.Assign [.Attribute o "marked" pos2] value pos) (sG (SHouse_marked X.K) ta tv) := ps_G ha hv T.cls_House T.no_House_marked sGHouse_marked hs
theorem pa_House_marked (T : Txt X.K X.mg) (ha : PE X o ta) (hv : PE X value tv) (hop : InOp X op rd) : PS X (.AugAssign (.Attribute o "marked" tpos) op value pos) (sGA (GHouse_marked X.K) (SHouse_marked X.K) rd ta tv) := ps_GA ha hv hop T.cls_House T.no_House_marked gGHouse_marked sGHouse_marked
theorem pe_House_holders (T : Txt X.K X.mg) (he : PE X e ta) (hb : attributeBase e "holders" X.env (eval e X.env) = eval e X.env := by rfl) : PE X (.Attribute e "holders" pos) (tG (GHouse_holders X.K) ta) := pe_G he T.cls_House T.no_House_holders gGHouse_holders hb
theorem ps_House_holders (T : Txt X.K X.mg) (ha : PE X o ta) (hv : PE X value tv) (hs : swapsWith value (some (.Attribute o "holders" pos2)) pos.line X.env = pure false := by rfl) : PS X (.Assign [.Attribute o "holders" pos2] value pos) (sG (SHouse_holders X.K) ta tv) := ps_G ha hv T.cls_House T.no_House_holders sGHouse_holders hs
theorem pa_House_holders (T : Txt X.K X.mg) (ha : PE X o ta) (hv : PE X value tv) (hop : InOp X op rd) : PS X (.AugAssign (.Attribute o "holders" tpos) op value pos) (sGA (GHouse_holders X.K) (SHouse_holders X.K) rd ta tv) := ps_GA ha hv hop T.cls_House T.no_House_holders gGHouse_holders sGHouse_holders
end
end SW
namespace SW
/-! ### association lists of ints -/
section
variable {β : Type}
def aget (l : List (Int × β)) (k : Int) : Option β := (l.find? fun p => decide (p.1 = k)).map (·.2)
def aput (l : List (Int × β)) (k : Int) (v : β) : List (Int × β) := if (l.any fun p => decide (p.1 = k)) = true then l.map fun p => if p.1 = k then (p.1, v) else p else l ++ [(k, v)]
def adel (l : List (Int × β)) (k : Int) : List (Int × β) := l.filter fun p => decide (p.1 ≠ k)
theorem aget_nil (k : Int) : aget ([] : List (Int × β)) k = none := rfl
theorem aget_cons (p : Int × β) (l : List (Int × β)) (k : Int) : aget (p :: l) k = if p.1 = k then some p.2 else aget l k := by
  unfold aget
  rw [List.find?_cons]
  by_cases h : p.1 = k <;> simp [h]
theorem any_aget (l : List (Int × β)) (k : Int) : (l.any fun p => decide (p.1 = k)) = (aget l k).isSome := by
  induction l with
  | nil => rfl
  | cons p l ih =>
    rw [List.any_cons, aget_cons, ih]
    by_cases h : p.1 = k <;> simp [h]
theorem aget_map (l : List (Int × β)) (k j : Int) (v : β) : aget (l.map fun p => if p.1 = k then (p.1, v) else p) j = if j = k then (aget l j).map fun _ => v else aget l j := by
  induction l with
  | nil => simp [aget_nil]
  | cons p l ih =>
    rw [List.map_cons, aget_cons, aget_cons, ih]
    by_cases h : p.1 = k <;> by_cases h2 : p.1 = j <;> by_cases h3 : j = k <;> simp_all
theorem aget_app (l : List (Int × β)) (k j : Int) (v : β) : aget (l ++ [(k, v)]) j = (aget l j).or (if k = j then some v else none) := by
  induction l with
  | nil => simp [aget_nil, aget_cons]
  | cons p l ih =>
    rw [List.cons_append, aget_cons, aget_cons, ih]
    by_cases h2 : p.1 = j <;> simp [h2]
theorem aget_put (l : List (Int × β)) (k j : Int) (v : β) : aget (aput l k v) j = if j = k then some v else aget l j := by
  unfold aput
  rw [any_aget]
  by_cases h : (aget l k).isSome = true
  · rw [if_pos h, aget_map]
    by_cases hj : j = k
    · subst hj
      obtain ⟨x, hx⟩ := Option.isSome_iff_exists.mp h
      simp [hx]
    · simp [hj]
  · rw [if_neg h, aget_app]
    have h0 : aget l k = none := by simpa using h
    by_cases hj : j = k
    · subst hj
      simp [h0]
    · simp [hj, Ne.symm hj]
theorem aget_del (l : List (Int × β)) (k j : Int) : aget (adel l k) j = if j = k then none else aget l j := by
  induction l with
  | nil => simp [adel, aget_nil]
  | cons p l ih =>
    unfold adel at ih ⊢
    rw [List.filter_cons]
    by_cases h : p.1 = k
    · simp only [h, ne_eq, not_true_eq_false, decide_false, Bool.false_eq_true, if_false]
      rw [ih, aget_cons]
      by_cases hj : j = k
      · simp [hj]
      · simp [hj, h, Ne.symm hj]
    · simp only [h, ne_eq, not_false_eq_true, decide_true, if_true]
      rw [aget_cons, aget_cons, ih]
      by_cases h2 : p.1 = j
      · subst h2
        simp [h]
      · simp [h2]
theorem len_put (l : List (Int × β)) (k : Int) (v : β) : (aput l k v).length = l.length + (if aget l k = none then 1 else 0) := by
  unfold aput
  rw [any_aget]
  cases h : aget l k <;> simp
theorem aget_mem {l : List (Int × β)} {k : Int} {v : β} (h : aget l k = some v) : (k, v) ∈ l := by
  induction l with
  | nil => cases h
  | cons p l ih =>
    rw [aget_cons] at h
    by_cases e : p.1 = k
    · rw [if_pos e] at h
      cases h
      subst e
      exact List.mem_cons_self
    · rw [if_neg e] at h
      exact List.mem_cons_of_mem _ (ih h)
theorem mem_aget {l : List (Int × β)} {k : Int} {v : β} (h : (k, v) ∈ l) : (aget l k).isSome = true := by
  rw [← any_aget]
  exact List.any_eq_true.mpr ⟨_, h, by simp⟩
theorem keys_put (l : List (Int × β)) (k : Int) (v : β) (h : (aget l k).isSome = true) : (aput l k v).map (·.1) = l.map (·.1) := by
  unfold aput
  rw [any_aget, if_pos h, List.map_map]
  refine List.map_congr_left fun p _ => ?_
  show (if p.1 = k then (p.1, v) else p).1 = p.1
  split <;> rfl
theorem keys_put_new (l : List (Int × β)) (k : Int) (v : β) (h : aget l k = none) : aput l k v = l ++ [(k, v)] := by
  unfold aput
  rw [any_aget, h]
  rfl
theorem mem_put {l : List (Int × β)} {k : Int} {v : β} {p : Int × β} (h : p ∈ aput l k v) : p = (k, v) ∨ p ∈ l := by
  unfold aput at h
  split at h
  · obtain ⟨q, hq, e⟩ := List.mem_map.mp h
    by_cases z : q.1 = k
    · rw [if_pos z] at e
      exact .inl (by rw [← e, z])
    · rw [if_neg z] at e
      exact .inr (e ▸ hq)
  · rcases List.mem_append.mp h with h | h
    · exact .inr h
    · exact .inl (List.mem_singleton.mp h)
theorem mem_del {l : List (Int × β)} {k : Int} {p : Int × β} (h : p ∈ adel l k) : p ∈ l ∧ p.1 ≠ k := by
  have := List.mem_filter.mp h
  exact ⟨this.1, by simpa using this.2⟩
def ANd (l : List (Int × β)) : Prop := (l.map (·.1)).Nodup
theorem and_put {l : List (Int × β)} (n : ANd l) (k : Int) (v : β) : ANd (aput l k v) := by
  unfold ANd at *
  cases h : aget l k with
  | some x =>
    rw [keys_put l k v (by rw [h]; rfl)]
    exact n
  | none =>
    rw [keys_put_new l k v h, List.map_append]
    refine List.nodup_append.mpr ⟨n, by simp, fun a ha b hb => ?_⟩
    simp only [List.map_cons, List.map_nil, List.mem_singleton] at hb
    subst hb
    rintro rfl
    obtain ⟨p, hp, e⟩ := List.mem_map.mp ha
    have := mem_aget (l := l) (k := p.1) (v := p.2) hp
    rw [e, h] at this
    cases this
theorem and_del {l : List (Int × β)} (n : ANd l) (k : Int) : ANd (adel l k) := by
  unfold ANd at *
  exact (List.filter_sublist.map _).nodup n
theorem len_del {l : List (Int × β)} (n : ANd l) {k : Int} (h : (aget l k).isSome = true) : (adel l k).length + 1 = l.length := by
  induction l with
  | nil => cases h
  | cons p l ih =>
    unfold ANd at n
    rw [List.map_cons, List.nodup_cons] at n
    rw [aget_cons] at h
    unfold adel at *
    rw [List.filter_cons]
    by_cases e : p.1 = k
    · subst e
      simp only [ne_eq, not_true_eq_false, decide_false, Bool.false_eq_true, if_false, List.length_cons]
      rw [List.filter_eq_self.mpr]
      intro q hq
      have : q.1 ≠ p.1 := fun z => n.1 (z ▸ List.mem_map_of_mem hq)
      simpa using this
    · rw [if_neg e] at h
      rw [if_pos (by simpa using e), List.length_cons, List.length_cons, ih n.2 h]
end
/-! ### the mirror of Bank and Slots -/
structure Bk where
  size : Nat
  lots : List (List (Int × Int))
structure Sl where
  old : Bk
  young : Option Bk
  shifted : Nat
  number : Nat
def ix (k : Int) (size : Nat) : Nat := (k % size).toNat
def newBk (n : Nat) : Bk := ⟨n, List.replicate n []⟩
def Bk.lot (b : Bk) (k : Int) : List (Int × Int) := b.lots.getD (ix k b.size) []
def Bk.setLot (b : Bk) (k : Int) (l : List (Int × Int)) : Bk := { b with lots := b.lots.set (ix k b.size) l }
def newSl : Sl := ⟨newBk 4, none, 0, 0⟩
/-- whether a key lies in the young row -/
def Sl.isYoung (s : Sl) (k : Int) : Bool := s.young.isSome && decide (ix k s.old.size < s.shifted)
def Sl.home (s : Sl) (k : Int) : List (Int × Int) := match s.young with
  | some y => if ix k s.old.size < s.shifted then y.lot k else s.old.lot k
  | none => s.old.lot k
def Sl.setHome (s : Sl) (k : Int) (l : List (Int × Int)) : Sl := match s.young with
  | some y => if ix k s.old.size < s.shifted then { s with young := some (y.setLot k l) } else { s with old := s.old.setLot k l }
  | none => { s with old := s.old.setLot k l }
def pour (y : Bk) (l : List (Int × Int)) : Bk := l.foldl (fun y p => y.setLot p.1 (aput (y.lot p.1) p.1 p.2)) y
def Sl.moveNext (s : Sl) : Sl := match s.young with
  | none => s
  | some y =>
    let y2 := pour y (s.old.lots.getD s.shifted [])
    if s.shifted + 1 = s.old.size then ⟨y2, none, 0, s.number⟩ else ⟨{ s.old with lots := s.old.lots.set s.shifted [] }, some y2, s.shifted + 1, s.number⟩
def Sl.beginRow (s : Sl) : Sl := match s.young with
  | some _ => s
  | none => if s.number > s.old.size ∧ s.old.size < 256 then { s with young := some (newBk (2 * s.old.size)) }
    else if 4 * s.number < s.old.size ∧ s.old.size > 4 then { s with young := some (newBk (s.old.size / 2)) } else s
def Sl.put (s : Sl) (k v : Int) : Sl :=
  let s1 := s.moveNext
  let s2 := if aget (s1.home k) k = none then { s1 with number := s1.number + 1 } else s1
  (s2.setHome k (aput (s2.home k) k v)).beginRow
def Sl.drop (s : Sl) (k : Int) : Sl :=
  let s1 := s.moveNext
  let s2 := s1.setHome k (adel (s1.home k) k)
  { s2 with number := s2.number - 1 }.beginRow
def Sl.look (s : Sl) (k : Int) : Option Int := aget (s.home k) k
/-! ### sizes -/
def SzOk (n : Nat) : Prop := n = 4 ∨ n = 8 ∨ n = 16 ∨ n = 32 ∨ n = 64 ∨ n = 128 ∨ n = 256
theorem SzOk.pow {n : Nat} (h : SzOk n) : ∃ j, j ≤ 16 ∧ n = 2 ^ j := by
  rcases h with h | h | h | h | h | h | h <;> subst h
  · exact ⟨2, by decide, rfl⟩
  · exact ⟨3, by decide, rfl⟩
  · exact ⟨4, by decide, rfl⟩
  · exact ⟨5, by decide, rfl⟩
  · exact ⟨6, by decide, rfl⟩
  · exact ⟨7, by decide, rfl⟩
  · exact ⟨8, by decide, rfl⟩
theorem SzOk.pos {n : Nat} (h : SzOk n) : 4 ≤ n ∧ n ≤ 256 := by unfold SzOk at h; omega
theorem ix_lt {k : Int} {n : Nat} (h : 0 < n) : ix k n < n := by
  have h1 := Int.emod_lt_of_pos k (b := (n : Int)) (by omega)
  have h0 := Int.emod_nonneg k (b := (n : Int)) (by omega)
  unfold ix
  omega
theorem ix_cast {k : Int} {n : Nat} (h : 0 < n) : ((ix k n : Nat) : Int) = k % n := by
  have h0 := Int.emod_nonneg k (b := (n : Int)) (by omega)
  unfold ix
  omega
/-- a row's shape; the keys of a slot lie there, each once, from 0 on -/
structure Bk.Ok (b : Bk) : Prop where
  sz : SzOk b.size
  len : b.lots.length = b.size
  nd : ∀ l ∈ b.lots, ANd l
  at_ : ∀ i l, b.lots[i]? = some l → ∀ p ∈ l, 0 ≤ p.1 ∧ ix p.1 b.size = i
def Bk.count (b : Bk) : Nat := (b.lots.map List.length).sum
def yCount : Option Bk → Nat
  | none => 0
  | some y => y.count
structure Sl.Ok (s : Sl) : Prop where
  num : s.number = s.old.count + yCount s.young
  old : s.old.Ok
  yng : ∀ y, s.young = some y → y.Ok ∧ s.shifted < s.old.size ∧ (y.size = 2 * s.old.size ∨ s.old.size = 2 * y.size) ∧ (∀ i, i < s.shifted → s.old.lots[i]? = some []) ∧
    ∀ l ∈ y.lots, ∀ p ∈ l, ix p.1 s.old.size < s.shifted
  one : s.young = none → s.shifted = 0
/-! ### a slot written -/
theorem sum_set_nat : ∀ (l : List (List (Int × Int))) (i : Nat) (x : List (Int × Int)), i < l.length → ((l.set i x).map List.length).sum + (l.getD i []).length = (l.map List.length).sum + x.length
  | [], i, x, h => absurd h (Nat.not_lt_zero _)
  | a :: l, 0, x, h => by
    simp only [List.set_cons_zero, List.map_cons, List.sum_cons, List.getD_cons_zero]
    omega
  | a :: l, i + 1, x, h => by
    have := sum_set_nat l i x (Nat.lt_of_succ_lt_succ h)
    simp only [List.set_cons_succ, List.map_cons, List.sum_cons, List.getD_cons_succ]
    omega
theorem le_sum_nat : ∀ (l : List (List (Int × Int))) (i : Nat), (l.getD i []).length ≤ (l.map List.length).sum
  | [], i => by simp
  | a :: l, 0 => by
    simp only [List.map_cons, List.sum_cons, List.getD_cons_zero]
    omega
  | a :: l, i + 1 => by
    have := le_sum_nat l i
    simp only [List.map_cons, List.sum_cons, List.getD_cons_succ]
    omega
section
variable {b y : Bk} {k v : Int} {l : List (Int × Int)}
theorem Bk.Ok.ix_lt (h : b.Ok) (k : Int) : ix k b.size < b.lots.length := by
  rw [h.len]
  exact SW.ix_lt (by have := h.sz.pos; omega)
theorem lot_mem (h : b.Ok) (k : Int) : b.lot k ∈ b.lots := by
  unfold Bk.lot
  rw [List.getD_eq_getElem?_getD, List.getElem?_eq_getElem (h.ix_lt k)]
  exact List.getElem_mem _
theorem lot_get (h : b.Ok) (k : Int) : b.lots[ix k b.size]? = some (b.lot k) := by
  unfold Bk.lot
  rw [List.getD_eq_getElem?_getD, List.getElem?_eq_getElem (h.ix_lt k)]
  rfl
theorem setLot_ok (h : b.Ok) (hn : ANd l) (hl : ∀ p ∈ l, 0 ≤ p.1 ∧ ix p.1 b.size = ix k b.size) : (b.setLot k l).Ok := by
  refine ⟨h.sz, by show (b.lots.set _ _).length = _; rw [List.length_set]; exact h.len, fun l2 hm => ?_, fun i l2 hi p hp => ?_⟩
  · rcases List.mem_or_eq_of_mem_set hm with q | q
    · exact h.nd l2 q
    · exact q ▸ hn
  · have hi : (b.lots.set (ix k b.size) l)[i]? = some l2 := hi
    by_cases e : ix k b.size = i
    · subst e
      rw [List.getElem?_set_self (h.ix_lt k)] at hi
      cases hi
      exact hl p hp
    · rw [List.getElem?_set_ne e] at hi
      exact h.at_ i l2 hi p hp
theorem put_ok (h : b.Ok) (hk : 0 ≤ k) : (b.setLot k (aput (b.lot k) k v)).Ok := by
  refine setLot_ok h (and_put (h.nd _ (lot_mem h k)) k v) fun p hp => ?_
  rcases mem_put hp with e | e
  · subst e
    exact ⟨hk, rfl⟩
  · exact h.at_ _ _ (lot_get h k) p e
theorem del_ok (h : b.Ok) : (b.setLot k (adel (b.lot k) k)).Ok :=
  setLot_ok h (and_del (h.nd _ (lot_mem h k)) k) fun p hp => h.at_ _ _ (lot_get h k) p (mem_del hp).1
theorem count_set (h : b.Ok) : (b.setLot k l).count + (b.lot k).length = b.count + l.length := sum_set_nat b.lots _ l (h.ix_lt k)
theorem lot_le (b : Bk) (k : Int) : (b.lot k).length ≤ b.count := le_sum_nat b.lots _
theorem count_put (h : b.Ok) : (b.setLot k (aput (b.lot k) k v)).count = b.count + if aget (b.lot k) k = none then 1 else 0 := by
  have h1 := count_set (k := k) (l := aput (b.lot k) k v) h
  rw [len_put] at h1
  omega
theorem count_del (h : b.Ok) (hk : (aget (b.lot k) k).isSome = true) : (b.setLot k (adel (b.lot k) k)).count + 1 = b.count := by
  have h1 := count_set (k := k) (l := adel (b.lot k) k) h
  have h2 := len_del (h.nd _ (lot_mem h k)) hk
  have h3 := lot_le b k
  omega
theorem pour_cons (y : Bk) (p : Int × Int) (l : List (Int × Int)) : pour y (p :: l) = pour (y.setLot p.1 (aput (y.lot p.1) p.1 p.2)) l := rfl
theorem pour_snoc (y : Bk) (p : Int × Int) (l : List (Int × Int)) : pour y (l ++ [p]) = (pour y l).setLot p.1 (aput ((pour y l).lot p.1) p.1 p.2) := by
  unfold pour
  rw [List.foldl_append]
  rfl
theorem pour_ok : ∀ (l : List (Int × Int)) {y : Bk}, y.Ok → (∀ p ∈ l, 0 ≤ p.1) → (pour y l).Ok
  | [], y, h, _ => h
  | p :: l, y, h, hl => by
    rw [pour_cons]
    exact pour_ok l (put_ok h (hl p List.mem_cons_self)) fun q hq => hl q (List.mem_cons_of_mem _ hq)
theorem pour_size : ∀ (l : List (Int × Int)) (y : Bk), (pour y l).size = y.size
  | [], y => rfl
  | p :: l, y => by
    rw [pour_cons, pour_size l]
    rfl
theorem pour_len : ∀ (l : List (Int × Int)) (y : Bk), (pour y l).lots.length = y.lots.length
  | [], y => rfl
  | p :: l, y => by
    rw [pour_cons, pour_len l]
    exact List.length_set ..
theorem pour_count : ∀ (l : List (Int × Int)) {y : Bk}, y.Ok → (∀ p ∈ l, 0 ≤ p.1) → (pour y l).count ≤ y.count + l.length
  | [], y, h, _ => Nat.le_refl _
  | p :: l, y, h, hl => by
    rw [pour_cons, List.length_cons]
    have h1 := pour_count l (put_ok (v := p.2) h (hl p List.mem_cons_self)) fun q hq => hl q (List.mem_cons_of_mem _ hq)
    have h2 := count_put (k := p.1) (v := p.2) h
    split at h2 <;> omega
end
end SW
namespace SW
open PySem PySem.Spec PyProof.Rows L2
section
variable {X : Cx}
theorem pe_cint {x : Str} {i : Int} {pos : Pos} (h : ∃ t, X.mg x = some (.int i t)) (hg : Gl X x := by rfl) (hd : (x == ("__debug__" : Str)) = false := by decide) : PE X (.Name x pos) (tC (.int i)) := by
  obtain ⟨t, e⟩ := h
  exact pe_glob hg e ⟨t, rfl⟩ hd
theorem pe_cstr {x z : Str} {pos : Pos} (h : ∃ t, X.mg x = some (.str z t)) (hg : Gl X x := by rfl) (hd : (x == ("__debug__" : Str)) = false := by decide) : PE X (.Name x pos) (tC (.str z)) := by
  obtain ⟨t, e⟩ := h
  exact pe_glob hg e ⟨t, rfl⟩ hd
theorem ix_listK {K : PySem.W.Frag} (h : X.K = K) : IxR X (rIxL K) := h ▸ ix_list
theorem ix_tupK {K : PySem.W.Frag} (h : X.K = K) : IxR X (rIxT K) := h ▸ ix_tup
/-- d.update(e), both dicts -/
def rUpd : V → List V → Hp → VK → Prop := fun x vs H Q => ∃ d o kvs more, x = .ref d ∧ vs = [.ref o] ∧ d ≠ o ∧ H d = some (.dK kvs) ∧ H o = some (.dK more) ∧ kvs.length + more.length ≤ sizeLine ∧ Q .non (upd H d (.dK (mergeK kvs more)))
theorem mt_update : MtR X "dict.update" rUpd := by
  intro pins s σ H x vs v us Q I rx rv h
  obtain ⟨d, o, kvs, more, rfl, rfl, hne, hd, ho, hz, q⟩ := h
  obtain rfl : v = Value.ref d := rx
  obtain rfl := Vals.ref1 rv
  obtain ⟨z, hs, ws, rel, dd⟩ := dk_of I.hok hd
  obtain ⟨z2, hs2, ws2, rel2, dd2⟩ := dk_of I.hok ho
  refine call_meetsIn PySem.F.slot_dict_update dd.typeIs PySem.F.entry_dict_update (PySem.F.args_dict_update_2 _ _) (meets_dict_update (mixKind X.prog X.w) d o hne hs2)
    ⟨ws, ws2, dd, dd2, by rw [← rel.length, ← rel2.length]; exact hz, fun h' dd' _ hsb => ⟨.non, _, ?_, rfl, q⟩⟩
  have he : ∃ q, h'.get? d = some q := let ⟨q, _, _, hq, _⟩ := dd'; ⟨q, hq⟩
  exact d_write I (by rw [hd]; exact True.intro) hsb he (dk_new (Nat.le_trans (length_mergeK more kvs) hz) hs (rel2.merge rel) dd')
end
end SW
namespace SW
open PySem PySem.Spec PyProof.Rows L2
/-! ### min(xs, default=d) of a list of ints; set(xs) of a list of ints -/
section
variable {X : Cx}
def minF (ns : List Int) (d : Int) : Int := match ns with
  | [] => d
  | n :: r => r.foldl min n
theorem reads_of_ints {h : Heap} : ∀ {vs : List Value} {ns : List Int}, IntsAre vs ns → ∃ as, ReadsAll h vs (ns.map PyData.int) as
  | _, _, .nil => ⟨_, .nil⟩
  | _, _, .cons k t r => by
    obtain ⟨as, q⟩ := reads_of_ints (h := h) r
    exact ⟨_, .cons (.int k t) q⟩
theorem alike_of_ints (ns : List Int) : PySem.W.AlikeAll (ns.map PyData.int) := by
  refine ⟨fun x hx y hy => ?_, fun x hx e => ?_⟩
  · obtain ⟨a, _, rfl⟩ := List.mem_map.mp hx
    obtain ⟨b, _, rfl⟩ := List.mem_map.mp hy
    rw [PySem.W.alike]
  · obtain ⟨a, _, rfl⟩ := List.mem_map.mp hx
    cases e
theorem dep_of_ints (ns : List Int) : PyData.depthAll (ns.map PyData.int) = 0 := by
  induction ns with
  | nil => rfl
  | cons n ns ih =>
    rw [List.map_cons, PyData.depthAll, ih]
    rfl
def rMinD (K : PySem.W.Frag) : List V → List V → Hp → VK → Prop := fun vs zs H Q => ∃ (a : Addr) (ns : List Int) (d : Int), vs = [.ref a] ∧ zs = [.int d] ∧ SqL K H a (ns.map V.int) ∧ Q (.int (minF ns d)) H
theorem cr_minD (hc : X.calm = true) (hu : X.A.units + 64 < cLine) : CallRK X (.builtin "min") [Str.ofString "default"] (rMinD X.K) := by
  intro pins s σ H vs zs us ws Q I r rz h
  obtain ⟨a, ns, d, rfl, rfl, hs, q⟩ := h
  obtain ⟨its, rv, hl, _⟩ := I.list hs
  obtain rfl := Vals.ref1 r
  obtain ⟨w1, rfl, t1, rfl⟩ := vals1 rz
  obtain ⟨as, ra⟩ := reads_of_ints (h := s.heap) rv.ints
  refine PySem.W.min_list_default (vs := its.toArray) (xs := ns.map PyData.int) (I.ok.hd hc) hl.isList ra (alike_of_ints ns) (by rw [dep_of_ints]; omega) (fun e h' tk k => ?_) (fun y ys i v h' tk bs e hv hr k => ?_)
  · cases ns with
    | nil => exact ⟨.int d, H, I.kept k, ⟨_, rfl⟩, q⟩
    | cons n ns => cases e
  · cases ns with
    | nil => cases e
    | cons n ns =>
      rw [List.map_cons] at e
      injection e with e1 e2
      subst e1 e2
      rw [PySem.W.minD_ints] at hr
      cases hr with
      | int i t => exact ⟨.int _, H, I.kept k, ⟨_, rfl⟩, q⟩
end
end SW
namespace SW
open PySem PySem.Spec PyProof.Rows L2
/-! ### set(xs) of a list of ints -/
section
variable {P : Program} {w : World} {A : Around} {E : Value → Shared → Prop} {s : Shared}
set_option maxHeartbeats 3200000 in
theorem set_of_listI {l : Addr} {its : Array Value} (ns : List Int) {Q : Value → Shared → Prop} (nh : A.handled = none) (hl : s.heap.IsList l its) (vit : IntsAre its.toList ns) (hb : ns.length + 1 < scanBound)
    (h : ∀ (hq : Heap) (tk c : Nat), SetR w hq s.heap.objs.size (fun j => decide (j ∈ ns)) c → c ≤ ns.length → (∀ b o, s.heap.get? b = some o → hq.get? b = some o) → Q (.ref s.heap.objs.size) { s with heap := hq, toks := tk }) :
    wpAny (model P w) A (call (Value.type "set") [Value.ref l]) Q E s := by
  have zs : its.size = ns.length := by
    have q := IntsAre.length vit
    rwa [Array.length_toList] at q
  obtain ⟨c, tl, q8⟩ := F.called_set.mro
  have q9 := F.called_set.made
  have p1 := F.called_set.sub
  refine wpAny_call (E := E) (codeAny_of_tree ?_)
  show wpAny _ _ (callAny (Value.type "set") _) _ _ _
  refine wpAny_pure (E := E) ⟨Code.quiet_builtin _ (by decide +kernel), codeAny_builtin F.entry_type_call ?_⟩
  rw [Around.under_plain (weight_type_call_type "set" [Value.ref l] []) rfl]
  have k1 := F.called_set.notType
  have k2 := F.called_set.canCreate
  have p2 := F.typeCall_set_1 (.ref l)
  repeat any_goals (first | assumption | wp_step)
  refine codeAny_mono (code_set_led1 (.ref l) (E := E) (Q₁ := fun nw sA => nw = .ref s.heap.objs.size ∧ sA = { s with heap := s.heap.push { cls := .type "set", dict := none, data := .set #[] 0 (.fresh 0 0 (!w.params.followText "set-order")) } }) ⟨rfl, rfl⟩) fun r sA o1 => ?_
  cases r with
  | error e => exact o1
  | ok fl =>
    cases fl with
    | ret nw =>
      obtain ⟨rfl, rfl⟩ := o1
      have tS : (s.heap.push { cls := .type "set", dict := none, data := .set #[] 0 (.fresh 0 0 (!w.params.followText "set-order")) }).get? s.heap.objs.size = some { cls := .type "set", dict := none, data := .set #[] 0 (.fresh 0 0 (!w.params.followText "set-order")) } := Heap.get?_push_size _ rfl
      have tT : Shared.TypeIs { s with heap := s.heap.push { cls := .type "set", dict := none, data := .set #[] 0 (.fresh 0 0 (!w.params.followText "set-order")) } } (.ref s.heap.objs.size) "set" := ⟨_, tS, rfl⟩
      have p3 := F.called_set.init.lookup
      have p4 := F.called_set.init.bind (.ref s.heap.objs.size)
      repeat any_goals (first | assumption | wp_step)
      refine codeAny_mono (codeAny_call_builtin (R := wants (fun r sB => r = .none ∧ ∃ hq tk c, sB = { s with heap := hq, toks := tk } ∧ SetR w hq s.heap.objs.size (fun j => decide (j ∈ ns)) c ∧ c ≤ ns.length ∧
          (∀ b o, s.heap.get? b = some o → hq.get? b = some o)) E) F.called_set.init.plain F.entry_set_init (check_set_init_1 tT ?_)) fun rB sB o2 => ?_
      · obtain ⟨ol, q1, q2, nl, q3⟩ := hl
        obtain ⟨oc, od, oa, os1⟩ := ol
        simp only at q2 q3
        subst q2; subst q3
        have qo : (s.heap.push { cls := .type "set", dict := none, data := .set #[] 0 (.fresh 0 0 (!w.params.followText "set-order")) }).get? l = some { cls := .type "list", dict := od, data := .seq its nl, slots := os1 } := Heap.get?_push_of_some _ q1
        have q5 := F.sub_list_set
        have q6 := F.sub_list_frozenset
        have q7 : (Value.type "list" == Value.type "dict") = false := by decide
        have ql : (s.heap.push { cls := .type "set", dict := none, data := .set #[] 0 (.fresh 0 0 (!w.params.followText "set-order")) }).IsList l its := ⟨_, qo, rfl, nl, rfl⟩
        unfold Builtin.«set.__init__» Builtin.Frozenset.updateFrom noKeywords
        generalize oPI : pyIter = Pi0
        wp_walk
        subst oPI
        refine wpAny_pyIter_list ql ?_
        refine wpAny_bind (E := E) (wpAny_runValue ?_)
        have p5 : l < s.heap.objs.size := Heap.lt_size q1
        have q4 : A.in1.in1.in1.handled = none := by simp [nh]
        have p6 : (s.heap.push { cls := .type "set", dict := none, data := .set #[] 0 (.fresh 0 0 (!w.params.followText "set-order")) }).objs.size = s.heap.objs.size + 1 := Heap.size_push ..
        have qn : l ≠ (s.heap.push { cls := .type "set", dict := none, data := .set #[] 0 (.fresh 0 0 (!w.params.followText "set-order")) }).objs.size := by
          rw [Heap.size_push]; exact Nat.ne_of_lt (Nat.lt_succ_of_lt p5)
        have qf : s.heap.objs.size ∉ [(s.heap.push { cls := .type "set", dict := none, data := .set #[] 0 (.fresh 0 0 (!w.params.followText "set-order")) }).objs.size, l] := by
          rw [Heap.size_push]; simp only [List.mem_cons, List.not_mem_nil, or_false, not_or]
          exact ⟨Nat.ne_of_lt (Nat.lt_succ_self _), Nat.ne_of_gt p5⟩
        have qv : ∀ (i : Nat) (v : Value), its[i]? = some v → ∃ k t, ns[i]? = some k ∧ v = .int k t := fun i v hv => by
          have hi : i < ns.length := by rw [← zs]; exact (Array.getElem?_eq_some_iff.mp hv).1
          obtain ⟨t, e⟩ := PyProof.Rows.IntsAre.int_at vit i v (by rw [Array.getElem?_toList]; exact hv)
          refine ⟨ns[i], t, (List.getElem?_eq_getElem hi), ?_⟩
          rw [e, List.getD_eq_getElem?_getD, (List.getElem?_eq_getElem hi)] <;> rfl
        refine set_update_ints ((Walks.list q4 _ l qn its).toS) s.heap.objs.size
          qf ns zs hb qv (its.size - 0) 0 _ (by omega) (Nat.zero_le _)
          ⟨⟨_, Heap.get?_push_size _ rfl, rfl, rfl⟩, ql.push _⟩ ?w0 ?wR
        case w0 =>
          have qg : ((s.heap.push { cls := .type "set", dict := none, data := .set #[] 0 (.fresh 0 0 (!w.params.followText "set-order")) }).push { cls := .type "list_iterator", data := .fields #[.ref l, .int 0 0] }).get? s.heap.objs.size
              = some { cls := .type "set", dict := none, data := .set #[] 0 (.fresh 0 0 (!w.params.followText "set-order")) } := Heap.get?_push_of_some _ tS
          exact ⟨0, Nat.le_refl 0, setR_new_at qg⟩
        case wR =>
          intro s' c' mv cq rS
          obtain ⟨hq, g2, d', tk', ob⟩ := s'
          have eg : g2 = s.gens := mv.gens
          have ed : d' = s.drawn := mv.drawn
          have eo : ob = s.os := mv.os
          subst ed; subst eg; subst eo
          show wpAny _ _ _ _ _ _
          refine wpAny_pure ?_
          show wpAny _ _ (ret .none) _ _ _
          rw [zs] at cq
          refine wpAny_pure ⟨rfl, hq, tk', c', rfl, rS, cq, fun b o e => ?_⟩
          have p7 : b < s.heap.objs.size := Heap.lt_size e
          have p8 : b ≠ s.heap.objs.size := Nat.ne_of_lt p7
          have p9 : b ≠ (s.heap.push { cls := .type "set", dict := none, data := .set #[] 0 (.fresh 0 0 (!w.params.followText "set-order")) }).objs.size := by
            rw [Heap.size_push]; exact Nat.ne_of_lt (Nat.lt_succ_of_lt p7)
          exact mv.heap b o (by simp only [List.mem_cons, List.mem_singleton, List.not_mem_nil, or_false, not_or]; exact ⟨p8, p9⟩) (Heap.get?_push_of_some _ (Heap.get?_push_of_some _ e))
      · cases rB with
        | error e => exact o2
        | ok fB =>
          cases fB with
          | ret r =>
            obtain ⟨rfl, hq, tk, c', rfl, rS, cq, kq⟩ := o2
            repeat any_goals (first | assumption | wp_step)
            exact h _ _ _ rS cq kq
          | _ => exact o2.elim
    | _ => exact o1.elim
end
section
variable {X : Cx}
def rSetL (K : PySem.W.Frag) (w : World) : List V → Hp → VK → Prop := fun xs H Q => ∃ (l : Addr) (ns : List Int), xs = [.ref l] ∧ SqL K H l (ns.map V.int) ∧ ns.length < 1000 ∧
  ∀ p c, H p = none → c ≤ ns.length → Q (.ref p) (upd H p (SetO w p (fun k => decide (k ∈ ns)) c))
theorem cr_setL (hc : X.calm = true) : CallR X (.type "set") (rSetL X.K X.w) := by
  intro pins s σ H vs us Q I r h
  obtain ⟨l, ns, rfl, hs, hz, q⟩ := h
  obtain ⟨its, rv, hl, _⟩ := I.list hs
  rw [Vals.ref1 r]
  refine set_of_listI (its := its.toArray) ns (I.ok.hd hc) hl.isList rv.ints (by unfold scanBound; omega) fun hq tk c R hcn k => ?_
  exact ⟨.ref _, upd H s.heap.objs.size (SetO X.w s.heap.objs.size (fun k => decide (k ∈ ns)) c), I.laid (t' := tk) k (Nat.le_refl _) (setO_new R), rfl, q _ _ (I.hok.fresh (Nat.le_refl _)) hcn⟩
end
end SW
open PySem PySem.Spec PyProof.Rows L2 in
local macro_rules | `(tactic| nest_cls) => `(tactic| first
  | (refine SW.Own.at (by assumption) 0 0 ?_; rfl) | (refine SW.Own.at (by assumption) 1 0 ?_; rfl) | (refine SW.Own.at (by assumption) 2 0 ?_; rfl) | (refine SW.Own.at (by assumption) 3 0 ?_; rfl)
  | (refine SW.Own.at (by assumption) 0 1 ?_; rfl) | (refine SW.Own.at (by assumption) 1 1 ?_; rfl) | (refine SW.Own.at (by assumption) 4 0 ?_; rfl) | (refine SW.Own.at (by assumption) 5 0 ?_; rfl)
  | (refine SW.Own.at (by assumption) 0 2 ?_; rfl) | (refine SW.Own.at (by assumption) 1 2 ?_; rfl) | (refine SW.Own.at (by assumption) 6 0 ?_; rfl) | (refine SW.Own.at (by assumption) 7 0 ?_; rfl)
  | (apply SW.Own.tup (i := 0) (j := 0) <;> first | assumption | rfl) | (apply SW.Own.tup (i := 1) (j := 0) <;> first | assumption | rfl) | (apply SW.Own.tup (i := 2) (j := 0) <;> first | assumption | rfl) | (apply SW.Own.tup (i := 3) (j := 0) <;> first | assumption | rfl))
local macro_rules | `(tactic| fold_depth) => `(tactic| first
  | ((with_reducible show (_ : Int) ≤ _); omega) | ((with_reducible show (_ : Int) < _); omega)
  | with_reducible rfl | assumption | (apply L2.SqL.of; assumption) | (apply L2.SqT.of; assumption) | (apply Or.inl; apply L2.SqL.of; assumption) | (apply Or.inr; apply L2.SqT.of; assumption) | nest_cls | (apply L2.SqL.of; nest_cls) | (apply Or.inl; apply L2.SqL.of; nest_cls) | (apply L2.SqT.of; nest_cls) | (refine Or.inl ⟨rfl, ?_⟩; apply Exists.intro; apply L2.SqL.of; nest_cls) | (refine Or.inr (Or.inr (Or.inl ⟨rfl, Or.inl ?_⟩)); apply Exists.intro; nest_cls) | rfl | omega | decide | ((with_reducible show List.length _ < 1000); refine of_decide_eq_true ?_; kernel_rfl)
  | ((with_reducible show List.length _ ≤ PySem.sizeLine); exact Nat.le_of_ble_eq_true rfl)
  | exact SW.Own.f1 (by assumption) | exact SW.Own.f2 (by assumption) | exact SW.Own.f3 (by assumption) | exact SW.Own.f4 (by assumption)
  | exact And.intro (by omega) (by omega) | exact Or.inl ⟨by omega, by omega⟩ | exact Or.inr ⟨by omega, by omega⟩
  | ((repeat apply Exists.intro); first | nest_cls | (refine And.intro ?b ?c; (case b => nest_cls); (case c => rfl))))
local macro_rules | `(tactic| regstrif_fact) => `(tactic| (intro p hp; generalize hh : L2.upd _ p _ = H'; first | (have O' := SW.Own.gen (by assumption) hp hh; clear hh) | (have O' := SW.Own.genT (by assumption) hp hh; clear hh)))
local macro_rules | `(tactic| regstrif_gather) => `(tactic| first | with_reducible rfl | assumption | omega | (rw [L2.V.int.injEq]; omega) | (intro h; rw [L2.V.int.injEq] at h; omega) | (intro h; cases h; done))
local macro_rules | `(tactic| regstrif_slice) => `(tactic| first
  | ((fail_if_success (apply @Exists.intro (Nat → L2.St → L2.Hp → Prop))); (fail_if_success (with_reducible refine (?_ : L2.rEqD _ _ _ _ _))); (fail_if_success (with_reducible refine (?_ : L2.rNeD _ _ _ _ _))); (fail_if_success (with_reducible apply @Exists.intro (Nat → Nat → _))); (fail_if_success (with_reducible apply @Exists.intro (Nat → L2.St → _))); (apply Exists.intro))
  | (refine And.intro ?a ?_; (case a => fold_depth))
  | (with_reducible refine L2.iteT ?_) | (with_reducible refine L2.iteF ?_)
  | ((with_reducible refine SW.ifT ?a ?_); (case a => regstrif_gather)) | ((with_reducible refine SW.ifF ?a ?_); (case a => regstrif_gather)) | ((with_reducible refine SW.ifNT ?a ?_); (case a => regstrif_gather)) | ((with_reducible refine SW.ifNF ?a ?_); (case a => regstrif_gather))
  | regstrif_fact)
local macro_rules | `(tactic| leaf_len) => `(tactic| repeat (regstrif_slice))
local macro_rules | `(tactic| none_booked) => `(tactic| (generalize hh : L2.upd _ _ _ = H'; have O' := SW.Own.genS (by assumption) hh; clear hh))
local macro_rules | `(tactic| isplit) => `(tactic| (generalize hh : L2.upd _ _ _ = H'; have O' := SW.Own.genS (SW.Own.f1 (by assumption)) hh; clear hh))
local macro_rules | `(tactic| got_up) => `(tactic| (generalize hh : L2.upd _ _ _ = H'; have O' := SW.Own.genS (SW.Own.f2 (by assumption)) hh; clear hh))
local macro_rules | `(tactic| nest_room) => `(tactic| (refine SW.Own.perm (by assumption) (SW.permQ fun c => ?_); simp only [List.flatten_cons, List.flatten_nil, List.count_append, List.count_cons, List.count_nil, List.append_nil, List.map_append, List.map_cons, List.map_nil]; omega))
local macro_rules | `(tactic| mem_news) => `(tactic| (generalize hh : L2.upd _ _ _ = H'; first | (have O' := SW.Own.genS (by assumption) hh; clear hh) | (have O' := SW.Own.genS (SW.Own.f1 (by assumption)) hh; clear hh) | (have O' := SW.Own.genS (SW.Own.f2 (by assumption)) hh; clear hh) | (have O' := SW.Own.genS (SW.Own.f3 (by assumption)) hh; clear hh) | (have O' := SW.Own.genS (SW.Own.f4 (by assumption)) hh; clear hh)))
local macro_rules | `(tactic| reads_via_all) => `(tactic| first | ((fail_if_success (with_reducible apply And.intro)); (fail_if_success (with_reducible apply Exists.intro)); mem_news) | regstrif_slice)
local macro_rules | `(tactic| reads_via) => `(tactic| repeat (reads_via_all))
namespace SW
open PySem PySem.Spec PyProof.Rows L2
/-! ### dicts of ints -/
def encD (l : List (Int × Int)) : List (Key × V) := l.map fun p => (Sum.inl p.1, V.int p.2)
theorem valV_enc (l : List (Int × Int)) (k : Int) : valV (encD l) (Sum.inl k : Key) = (aget l k).map V.int := by
  induction l with
  | nil => rfl
  | cons p l ih =>
    rw [aget_cons]
    show valV ((Sum.inl p.1, V.int p.2) :: encD l) (Sum.inl k : Key) = _
    by_cases h : p.1 = k
    · rw [valV_pos (by rw [h]), if_pos h]
      rfl
    · rw [valV_neg (by simpa using h), if_neg h, ih]
theorem putK_enc (l : List (Int × Int)) (k v : Int) : putK (encD l) (Sum.inl k : Key) (.int v) = encD (aput l k v) := by
  unfold putK aput encD
  rw [List.any_map]
  have e : ((fun kv : Key × V => decide (kv.1 = (Sum.inl k : Key))) ∘ fun p : Int × Int => (Sum.inl p.1, V.int p.2)) = fun p : Int × Int => decide (p.1 = k) := by
    funext p
    simp
  rw [e]
  split
  · rw [List.map_map, List.map_map]
    refine List.map_congr_left fun p _ => ?_
    by_cases h : p.1 = k <;> simp [h]
  · rw [List.map_append]
    rfl
theorem dropK_enc (l : List (Int × Int)) (k : Int) : dropK (encD l) (Sum.inl k : Key) = encD (adel l k) := by
  unfold dropK adel encD
  rw [List.filter_map]
  congr 1
  refine List.filter_congr fun p _ => ?_
  simp
theorem len_enc (l : List (Int × Int)) : (encD l).length = l.length := List.length_map _
/-! ### a Bank in the heap -/
structure BankA where
  p : Addr
  dx : Addr
  ls : Addr
  ds : List Addr
def lotsC (ds : List Addr) (ls : List (List (Int × Int))) : List Ce := List.zipWith (fun d l => Ce.m d (.dK (encD l))) ds ls
def bankC (K : PySem.W.Frag) (A : BankA) (b : Bk) : List Ce :=
  .m A.p (.ins (He.ga K "Bank") A.dx (flBank (.int b.size) (.ref A.ls))) :: .m A.ls (.lst (A.ds.map V.ref)) :: pu (A.ds.length = b.lots.length) :: lotsC A.ds b.lots
section
variable {P : Program} {w : World} {K : PySem.W.Frag} {mg : Str → Option Value} {base : Heap}
def sp_mark_of (K : PySem.W.Frag) : Sp := fun vs H Q _ => ∃ k : Int, vs = [.int k] ∧ 0 ≤ k ∧ Q (.int (k % 65536)) H
theorem sc_mark_of : FnScope ["key"] ["key"] (defScope s_mark_of) := ⟨rfl, rfl, rfl, by decide +kernel, rfl, by decide +kernel, by decide +kernel⟩
theorem ok_mark_of (T : Txt K mg) : OkD P w K mg base 1 ("mark_of", none) ["key"] [] (sp_mark_of K) := by
  refine ok_of T.f_mark_of sc_mark_of (fun vs H Q E h => ?_) (fun dV kV doc pm an cdv ct us hl => match us, hl with | [_], _ => rfl) (fun cdv A outer s H vs Q E hr h => ?_)
  · obtain ⟨k, rfl, _⟩ := h
    rfl
  · obtain ⟨k, rfl, hk, q⟩ := h
    refine ⟨_, (pss_one (ps_ret (pe_op op_and (pv 0) (pe_op op_sub (pe_cint T.int_PLACES) pe_int)))), ?_⟩
    try dsimp only [L2.cxOf]
    leaf_len
    show Q (.int (Builtin.bitAnd k (65536 - 1))) H
    rw [show Builtin.bitAnd k (65536 - 1) = k % 65536 from Bits.bitAnd_mask 16 hk]
    exact q
theorem pow_dvd {j : Nat} (hj : j ≤ 16) : (2 : Int) ^ j ∣ 65536 := by
  have h : (2 : Int) ^ j * 2 ^ (16 - j) = 65536 := by
    rw [← Int.pow_add, show j + (16 - j) = 16 by omega]
    rfl
  exact ⟨_, h.symm⟩
def sp_slot_of (K : PySem.W.Frag) : Sp := fun vs H Q _ => ∃ (k : Int) (s : Nat), vs = [.int k, .int s] ∧ 0 ≤ k ∧ SzOk s ∧ Q (.int (ix k s : Nat)) H
theorem sc_slot_of : FnScope ["key", "size"] ["key", "size"] (defScope s_slot_of) := ⟨rfl, rfl, rfl, by decide +kernel, rfl, by decide +kernel, by decide +kernel⟩
theorem ok_slot_of (T : Txt K mg) : OkD P w K mg base 2 ("slot_of", none) ["key", "size"] [] (sp_slot_of K) := by
  refine ok_of T.f_slot_of sc_slot_of (fun vs H Q E h => ?_) (fun dV kV doc pm an cdv ct us hl => match us, hl with | [_, _], _ => rfl) (fun cdv A outer s H vs Q E hr h => ?_)
  · obtain ⟨k, s, rfl, _⟩ := h
    rfl
  · obtain ⟨k, s, rfl, hk, hs, q⟩ := h
    refine ⟨_, (pss_one (ps_ret (pe_op op_and (pe_D (ok_mark_of (K := K) T) T.glo_mark_of hr (pa_cons (pv 0) pa_nil)) (pe_op op_sub (pv 1) pe_int)))), ?_⟩
    try dsimp only [L2.cxOf]
    leaf_len
    show Q (.int (Builtin.bitAnd (k % 65536) ((s : Int) - 1))) H
    rw [ix_cast (by have := hs.pos; omega)] at q
    obtain ⟨j, hj, rfl⟩ := hs.pow
    rw [show ((2 ^ j : Nat) : Int) = 2 ^ j by simp] at q ⊢
    rw [Bits.bitAnd_mask j (Int.emod_nonneg _ (by decide)), Int.emod_emod_of_dvd k (pow_dvd hj)]
    exact q
theorem small_size {n : Nat} (h : n ≤ 100000) : n < sizeLine := Nat.lt_of_le_of_lt h (by decide)
def sp_Bank___init__ (K : PySem.W.Frag) : Sp := fun vs H Q _ => ∃ (p dx : Addr) (n : Nat) (R : List (List Ce)), vs = [.ref p, .int n] ∧ Own H ([.m p (.ins (He.ga K "Bank") dx [])] :: R) ∧ SzOk n ∧
  ∀ H' A, A.p = p → Own H' (bankC K A (newBk n) :: R) → Q .non H'
theorem sc_Bank___init__ : FnScope ["self", "size", "slot"] ["self", "size"] (defScope s_Bank___init__) := ⟨rfl, rfl, rfl, by decide +kernel, rfl, by decide +kernel, by decide +kernel⟩
theorem ok_Bank___init__ (T : Txt K mg) : OkD P w K mg base 3 ("Bank", some "__init__") ["self", "size"] [] (sp_Bank___init__ K) := by
  refine ok_of T.f_Bank___init__ sc_Bank___init__ (fun vs H Q E h => ?_) (fun dV kV doc pm an cdv ct us hl => match us, hl with | [_, _], _ => rfl) (fun cdv A outer s H vs Q E hr h => ?_)
  · obtain ⟨p, dx, n, R, rfl, _⟩ := h
    rfl
  · obtain ⟨p, dx, n, R, rfl, O, hn, q⟩ := h
    have c1 := T.cls_Bank
    have c2 := T.no_Bank_size
    have c3 := T.no_Bank_lots
    have hp := hn.pos
    refine ⟨_, (pss_cons (ps_fld (pv 0) (pv 1) rfl)
      (pss_one (ps_fld (pv 0) (pe_lc (own := [("slot", 2)]) rfl sc_Bank___init__.nd (pi_range1 (by rfl) T.free_range (pa_cons (pv 1) pa_nil)) (blkOk_by (own := [("slot", 2)]) (N := ["self", "size", "slot"]) (sc := defScope s_Bank___init__) (by decide +kernel)) (fun _ _ _ _ _ => (pg_name (i := 2) sc_Bank___init__.nd rfl (Or.inl rfl))) (fun _ _ _ _ _ => pts_nil) (fun _ _ _ _ _ => pe_dnewK)) rfl))), ?_⟩
    try dsimp only [L2.cxOf]
    leaf_len
    none_booked
    leaf_len
    rename_i H1 O1 D hD H2 O2
    refine lcR (lo := 0) (n := n) (fun i H => Stp (∃ ds : List Addr, Own H ([.m D (.lst (ds.map V.ref))] :: lotsC ds (List.replicate i []) :: [.m p (.ins (He.ga K "Bank") dx (putF "size" (.int n) []))] :: R) ∧ ds.length = i)) ⟨[], O2.f1.addNil.f2, rfl⟩ ?_ ?_
    · rintro i H3 hi ⟨ds, O3, hl⟩
      have hz : (ds.map V.ref).length < sizeLine := small_size (by rw [List.length_map]; omega)
      leaf_len
      rename_i d hd H4 O4
      isplit
      rename_i H5 O5
      refine ⟨ds ++ [d], ?_, by simp [hl]⟩
      have e : lotsC (ds ++ [d]) (List.replicate (i + 1) []) = lotsC ds (List.replicate i []) ++ [.m d (.dK [])] := by
        unfold lotsC
        rw [List.replicate_succ', List.zipWith_append (by simp [hl])]
        rfl
      rw [e, List.map_append]
      nest_room
    · rintro H3 ⟨ds, O3, hl⟩
      leaf_len
      got_up
      rename_i H4 O4
      rw [in_Bank] at O4
      refine q H4 ⟨p, dx, D, ds⟩ rfl ?_
      have O5 := O4.addU (show ds.length = (List.replicate n ([] : List (Int × Int))).length by simp [hl])
      unfold bankC newBk
      nest_room
theorem map_ref {ds : List Addr} {i : Nat} (h : i < ds.length) : (ds.map V.ref)[i]? = some (.ref (ds.getD i 0)) := by
  rw [List.getElem?_map, List.getElem?_eq_getElem h]
  simp [List.getD, h]
def sp_Bank_lot_of (K : PySem.W.Frag) : Sp := fun vs H Q _ => ∃ (A : BankA) (b : Bk) (R : List (List Ce)) (k : Int), vs = [.ref A.p, .int k] ∧ Own H (bankC K A b :: R) ∧ b.Ok ∧ 0 ≤ k ∧ Q (.ref (A.ds.getD (ix k b.size) 0)) H
theorem sc_Bank_lot_of : FnScope ["self", "key"] ["self", "key"] (defScope s_Bank_lot_of) := ⟨rfl, rfl, rfl, by decide +kernel, rfl, by decide +kernel, by decide +kernel⟩
theorem ok_Bank_lot_of (T : Txt K mg) : OkD P w K mg base 3 ("Bank", some "lot_of") ["self", "key"] [] (sp_Bank_lot_of K) := by
  refine ok_of T.f_Bank_lot_of sc_Bank_lot_of (fun vs H Q E h => ?_) (fun dV kV doc pm an cdv ct us hl => match us, hl with | [_, _], _ => rfl) (fun cdv A outer s H vs Q E hr h => ?_)
  · obtain ⟨A, b, R, k, rfl, _⟩ := h
    rfl
  · obtain ⟨A, b, R, k, rfl, O, hb, hk, q⟩ := h
    have hsz := hb.sz
    have hl : A.ds.length = b.lots.length := O.fact 0 2 rfl
    refine ⟨_, (pss_one (ps_ret (pe_ix (ix_listK (K := K) rfl) (pe_Bank_lots T (pv 0)) (pe_D (ok_slot_of (K := K) T) T.glo_slot_of hr (pa_cons (pv 1) (pa_cons (pe_Bank_size T (pv 0)) pa_nil))) (fun _ _ => rfl)))), ?_⟩
    try dsimp only [L2.cxOf]
    leaf_len
    exact ⟨atI_nat (map_ref (by rw [hl, hb.len]; exact ix_lt (by have := hsz.pos; omega))), q⟩
end
end SW
namespace SW
open PySem PySem.Spec PyProof.Rows L2
/-! ### Slots in the heap -/
structure SlotsA where
  p : Addr
  dx : Addr
  old : BankA
  yng : BankA
def yV (A : BankA) : Option Bk → V
  | none => .non
  | some _ => .ref A.p
def yC (K : PySem.W.Frag) (A : BankA) : Option Bk → List Ce
  | none => []
  | some y => bankC K A y
def slotsC (K : PySem.W.Frag) (A : SlotsA) (s : Sl) : List Ce :=
  .m A.p (.ins (He.ga K "Slots") A.dx (flSlots (.ref A.old.p) (yV A.yng s.young) (.int s.shifted) (.int s.number))) :: (bankC K A.old s.old ++ yC K A.yng s.young)
def homeAd (A : SlotsA) (s : Sl) (k : Int) : Addr := match s.young with
  | some y => if ix k s.old.size < s.shifted then A.yng.ds.getD (ix k y.size) 0 else A.old.ds.getD (ix k s.old.size) 0
  | none => A.old.ds.getD (ix k s.old.size) 0
section
variable {K : PySem.W.Frag} {H : Hp} {R : List (List Ce)} {A : SlotsA} {B : BankA} {b : Bk} {s : Sl}
theorem lots_at {ds : List Addr} {ls : List (List (Int × Int))} {i : Nat} (h : ds.length = ls.length) (hi : i < ls.length) : (lotsC ds ls)[i]? = some (.m (ds.getD i 0) (.dK (encD (ls.getD i [])))) := by
  unfold lotsC
  rw [List.getElem?_zipWith, List.getElem?_eq_getElem (by omega), List.getElem?_eq_getElem hi]
  simp [List.getD, h, hi]
theorem lots_set {ds : List Addr} {ls : List (List (Int × Int))} {i : Nat} {l : List (Int × Int)} (h : ds.length = ls.length) (hi : i < ls.length) : (lotsC ds ls).set i (.m (ds.getD i 0) (.dK (encD l))) = lotsC ds (ls.set i l) := by
  unfold lotsC
  refine List.ext_getElem? fun j => ?_
  rw [List.getElem?_set]
  simp only [List.getElem?_zipWith, List.length_zipWith, h, Nat.min_self]
  by_cases e : i = j
  · subst e
    simp [hi, List.getD, h]
  · simp only [e, if_false]
    rw [List.getElem?_set_ne e]
theorem bank_len (O : Own H (bankC K B b :: R)) : B.ds.length = b.lots.length := O.fact 0 2 rfl
theorem bank_out (O : Own H (bankC K B b :: R)) {i : Nat} (hi : i < b.lots.length) : Own H ([.m (B.ds.getD i 0) (.dK (encD (b.lots.getD i [])))] :: (bankC K B b).eraseIdx (i + 3) :: R) :=
  O.out (i + 3) (lots_at (bank_len O) hi)
theorem bank_in {l : List (Int × Int)} {i : Nat} (O : Own H ([.m (B.ds.getD i 0) (.dK (encD l))] :: (bankC K B b).eraseIdx (i + 3) :: R)) (hl : B.ds.length = b.lots.length) (hi : i < b.lots.length) :
    Own H (bankC K B { b with lots := b.lots.set i l } :: R) := by
  have h := O.put (x := bankC K B b) (j := i + 3) (by show i + 3 < (lotsC B.ds b.lots).length + 3; unfold lotsC; rw [List.length_zipWith, hl]; omega)
  have e : (bankC K B b).set (i + 3) (.m (B.ds.getD i 0) (.dK (encD l))) = bankC K B { b with lots := b.lots.set i l } := by
    unfold bankC
    show _ :: _ :: _ :: (lotsC B.ds b.lots).set i _ = _
    rw [lots_set hl hi]
    simp only [List.length_set]
  rw [e] at h
  exact h
theorem slots_split (O : Own H (slotsC K A s :: R)) : Own H ([.m A.p (.ins (He.ga K "Slots") A.dx (flSlots (.ref A.old.p) (yV A.yng s.young) (.int s.shifted) (.int s.number)))] :: bankC K A.old s.old :: yC K A.yng s.young :: R) := by
  unfold slotsC at O
  nest_room
theorem slots_join (O : Own H ([.m A.p (.ins (He.ga K "Slots") A.dx (flSlots (.ref A.old.p) (yV A.yng s.young) (.int s.shifted) (.int s.number)))] :: bankC K A.old s.old :: yC K A.yng s.young :: R)) : Own H (slotsC K A s :: R) := by
  unfold slotsC
  nest_room
theorem lot_in {b : Bk} (hb : b.Ok) (k : Int) : ix k b.size < b.lots.length := by
  rw [hb.len]
  exact ix_lt (by have := hb.sz.pos; omega)
/-- the dict in which a key lies, or would -/
theorem home_at0 (O : Own H (slotsC K A s :: R)) (ho : s.old.Ok) (hyo : ∀ y, s.young = some y → y.Ok) (k : Int) : H (homeAd A s k) = some (.dK (encD (s.home k))) := by
  have O1 := slots_split O
  unfold homeAd Sl.home
  cases hy : s.young with
  | none => exact (bank_out (O1.f1) (lot_in ho k)).at 0 0 rfl
  | some y =>
    rw [hy] at O1
    have O1 : Own H (_ :: bankC K A.old s.old :: bankC K A.yng y :: R) := O1
    show H (if _ then _ else _) = some (.dK (encD (if _ then _ else _)))
    split
    · exact (bank_out (O1.f2) (lot_in (hyo y hy) k)).at 0 0 rfl
    · exact (bank_out (O1.f1) (lot_in ho k)).at 0 0 rfl
theorem home_at (O : Own H (slotsC K A s :: R)) (hs : s.Ok) (k : Int) : H (homeAd A s k) = some (.dK (encD (s.home k))) :=
  home_at0 O hs.old (fun y hy => (hs.yng y hy).1) k
theorem home_set0 {l : List (Int × Int)} (O : Own H (slotsC K A s :: R)) (ho : s.old.Ok) (hyo : ∀ y, s.young = some y → y.Ok) (k : Int) : Own (upd H (homeAd A s k) (.dK (encD l))) (slotsC K A (s.setHome k l) :: R) := by
  have O1 := slots_split O
  have oldc : Own (upd H (A.old.ds.getD (ix k s.old.size) 0) (.dK (encD l))) (slotsC K A { s with old := s.old.setLot k l } :: R) := by
    have h := (bank_out (O1.f1) (lot_in ho k)).set0 (o' := .dK (encD l))
    exact slots_join (bank_in h (bank_len O1.f1) (lot_in ho k)).f1
  unfold homeAd Sl.setHome
  cases hy : s.young with
  | none =>
    rw [hy] at oldc
    exact oldc
  | some y =>
    rw [hy] at oldc
    show Own (upd H (if _ then _ else _) _) (slotsC K A (if _ then _ else _) :: R)
    split
    · rw [hy] at O1
      have O1 : Own H (_ :: bankC K A.old s.old :: bankC K A.yng y :: R) := O1
      have h := (bank_out (O1.f2) (lot_in (hyo y hy) k)).set0 (o' := .dK (encD l))
      exact slots_join (s := { s with young := some (y.setLot k l) }) (bank_in h (bank_len O1.f2) (lot_in (hyo y hy) k)).g2
    · exact oldc
theorem home_set {l : List (Int × Int)} (O : Own H (slotsC K A s :: R)) (hs : s.Ok) (k : Int) : Own (upd H (homeAd A s k) (.dK (encD l))) (slotsC K A (s.setHome k l) :: R) :=
  home_set0 O hs.old (fun y hy => (hs.yng y hy).1) k
end
section
variable {P : Program} {w : World} {K : PySem.W.Frag} {mg : Str → Option Value} {base : Heap}
def sp_Slots___init__ (K : PySem.W.Frag) : Sp := fun vs H Q _ => ∃ (p dx : Addr) (R : List (List Ce)), vs = [.ref p] ∧ Own H ([.m p (.ins (He.ga K "Slots") dx [])] :: R) ∧ ∀ H' A, A.p = p → Own H' (slotsC K A newSl :: R) → Q .non H'
theorem sc_Slots___init__ : FnScope ["self"] ["self"] (defScope s_Slots___init__) := ⟨rfl, rfl, rfl, by decide +kernel, rfl, by decide +kernel, by decide +kernel⟩
theorem ok_Slots___init__ (T : Txt K mg) : OkD P w K mg base 5 ("Slots", some "__init__") ["self"] [] (sp_Slots___init__ K) := by
  refine ok_of T.f_Slots___init__ sc_Slots___init__ (fun vs H Q E h => ?_) (fun dV kV doc pm an cdv ct us hl => match us, hl with | [_], _ => rfl) (fun cdv A outer s H vs Q E hr h => ?_)
  · obtain ⟨p, dx, R, rfl, _⟩ := h
    rfl
  · obtain ⟨p, dx, R, rfl, O, q⟩ := h
    have c1 := T.cls_Slots
    have c2 := T.no_Slots_old
    have c3 := T.no_Slots_young
    have c4 := T.no_Slots_shifted
    have c5 := T.no_Slots_number
    have h4 : SzOk 4 := .inl rfl
    refine ⟨_, (pss_cons (ps_fld (pv 0) (pe_MK (ok_Bank___init__ (K := K) T) T.glo_Bank T.mk_Bank hr (pa_cons (pe_cint T.int_LEAST_SIZE) pa_nil)) rfl)
      (pss_cons (ps_fld (pv 0) pe_non rfl)
      (pss_cons (ps_fld (pv 0) pe_int rfl)
      (pss_one (ps_fld (pv 0) pe_int rfl))))), ?_⟩
    try dsimp only [L2.cxOf]
    intro x dx2 nx nd ne
    generalize hh : upd _ x _ = H1
    have O1 := O.genM nx nd ne hh
    refine ⟨x, dx2, 4, _, rfl, O1, h4, fun H2 B eB O2 => ⟨rfl, ?_⟩⟩
    subst eB
    leaf_len
    isplit
    leaf_len
    none_booked
    leaf_len
    none_booked
    leaf_len
    none_booked
    rename_i O3
    rw [in_Slots] at O3
    exact q _ ⟨p, dx, B, B⟩ rfl (slots_join (s := newSl) (A := ⟨p, dx, B, B⟩) O3.addNil.g2)
def sp_Slots_home (K : PySem.W.Frag) : Sp := fun vs H Q _ => ∃ (A : SlotsA) (s : Sl) (R : List (List Ce)) (k : Int), vs = [.ref A.p, .int k] ∧ Own H (slotsC K A s :: R) ∧ s.Ok ∧ 0 ≤ k ∧ Q (.ref (homeAd A s k)) H
theorem sc_Slots_home : FnScope ["self", "key"] ["self", "key"] (defScope s_Slots_home) := ⟨rfl, rfl, rfl, by decide +kernel, rfl, by decide +kernel, by decide +kernel⟩
theorem ok_Slots_home (T : Txt K mg) : OkD P w K mg base 4 ("Slots", some "home") ["self", "key"] [] (sp_Slots_home K) := by
  refine ok_of T.f_Slots_home sc_Slots_home (fun vs H Q E h => ?_) (fun dV kV doc pm an cdv ct us hl => match us, hl with | [_, _], _ => rfl) (fun cdv A outer s H vs Q E hr h => ?_)
  · obtain ⟨A, s, R, k, rfl, _⟩ := h
    rfl
  · obtain ⟨A, s, R, k, rfl, O, hs, hk, q⟩ := h
    have O1 := slots_split O
    clear O
    have hsz := hs.old.sz
    have ho := hs.old
    refine ⟨_, (pss_cons (ps_if (PW.pt (pw_and (pt_cmpR op_notN (pe_Slots_young T (pv 0)) pe_non (nomark _)) (pw_and1 (pt_cmpR op_lt (pe_D (ok_slot_of (K := K) T) T.glo_slot_of hr (pa_cons (pv 1) (pa_cons (pe_Bank_size T (pe_Slots_old T (pv 0))) pa_nil))) (pe_Slots_shifted T (pv 0)) (nomark _)))))
      (pss_one (ps_ret (pe_GM (ok_Bank_lot_of (K := K) T) (pe_Slots_young T (pv 0)) T.cls_Bank T.me_Bank_lot_of gMBank_lot_of hr passL (pa_cons (pv 1) pa_nil))))
      pss_nil)
      (pss_one (ps_ret (pe_GM (ok_Bank_lot_of (K := K) T) (pe_Slots_old T (pv 0)) T.cls_Bank T.me_Bank_lot_of gMBank_lot_of hr passL (pa_cons (pv 1) pa_nil))))), ?_⟩
    try dsimp only [L2.cxOf]
    unfold homeAd at q
    cases hy : s.young with
    | none =>
      rw [hy] at O1 q
      have O1 : Own H (_ :: bankC K A.old s.old :: R) := O1.f2.nil
      leaf_len
      exact q
    | some y =>
      rw [hy] at O1 q
      have hy1 := (hs.yng y hy).1
      have O1 : Own H (_ :: bankC K A.old s.old :: bankC K A.yng y :: R) := O1
      leaf_len
      refine ite2 (fun hc => ?_) (fun hc => ?_)
      · have hc : ix k s.old.size < s.shifted := by simpa using hc
        leaf_len
        exact (congrArg (fun a => Q (.ref a) H) (if_pos hc)).mp q
      · have hc : ¬ ix k s.old.size < s.shifted := by simpa using hc
        leaf_len
        exact (congrArg (fun a => Q (.ref a) H) (if_neg hc)).mp q
def sp_Slots_begin_row (K : PySem.W.Frag) : Sp := fun vs H Q _ => ∃ (A : SlotsA) (s : Sl) (R : List (List Ce)), vs = [.ref A.p] ∧ Own H (slotsC K A s :: R) ∧ s.Ok ∧ ∀ H' A', A'.p = A.p → Own H' (slotsC K A' s.beginRow :: R) → Q .non H'
theorem sc_Slots_begin_row : FnScope ["self", "size"] ["self"] (defScope s_Slots_begin_row) := ⟨rfl, rfl, rfl, by decide +kernel, rfl, by decide +kernel, by decide +kernel⟩
theorem ok_Slots_begin_row (T : Txt K mg) : OkD P w K mg base 5 ("Slots", some "begin_row") ["self"] [] (sp_Slots_begin_row K) := by
  refine ok_of T.f_Slots_begin_row sc_Slots_begin_row (fun vs H Q E h => ?_) (fun dV kV doc pm an cdv ct us hl => match us, hl with | [_], _ => rfl) (fun cdv A outer s H vs Q E hr h => ?_)
  · obtain ⟨A, s, R, rfl, _⟩ := h
    rfl
  · obtain ⟨A, s, R, rfl, O, hs, q⟩ := h
    have O1 := slots_split O
    clear O
    have hsz := hs.old.sz
    refine ⟨_, (pss_cons (ps_set (i := 1) sc_Slots_begin_row.nd rfl (Or.inl rfl) (pe_Bank_size T (pe_Slots_old T (pv 0))))
      (pss_one (ps_if (PW.pt (pw_and (pt_cmpR op_isN (pe_Slots_young T (pv 0)) pe_non (nomark _)) (pw_and (pt_cmpR op_gt (pe_Slots_number T (pv 0)) (pv 1) (nomark _)) (pw_and1 (pt_cmpR op_lt (pv 1) (pe_cint T.int_MOST_SIZE) (nomark _))))))
      (pss_one (ps_Slots_young T (pv 0) (pe_MK (ok_Bank___init__ (K := K) T) T.glo_Bank T.mk_Bank hr (pa_cons (pe_op op_mul pe_int (pv 1)) pa_nil))))
      (pss_one (ps_if (PW.pt (pw_and (pt_cmpR op_isN (pe_Slots_young T (pv 0)) pe_non (nomark _)) (pw_and (pt_cmpR op_lt (pe_op op_mul pe_int (pe_Slots_number T (pv 0))) (pv 1) (nomark _)) (pw_and1 (pt_cmpR op_gt (pv 1) (pe_cint T.int_LEAST_SIZE) (nomark _))))))
      (pss_one (ps_Slots_young T (pv 0) (pe_MK (ok_Bank___init__ (K := K) T) T.glo_Bank T.mk_Bank hr (pa_cons (pe_op op_fdiv (pv 1) pe_int) pa_nil))))
      pss_nil))))), ?_⟩
    try dsimp only [L2.cxOf]
    unfold Sl.beginRow at q
    cases hy : s.young with
    | some y =>
      rw [hy] at O1 q
      have O1 : Own H (_ :: bankC K A.old s.old :: bankC K A.yng y :: R) := O1
      leaf_len
      exact q H A rfl (slots_join (by rw [hy]; exact O1))
    | none =>
      rw [hy] at O1 q
      have O1 : Own H (_ :: bankC K A.old s.old :: R) := O1.f2.nil
      by_cases h1 : s.number > s.old.size ∧ s.old.size < 256
      · have q : ∀ H' A', A'.p = A.p → Own H' (slotsC K A' { s with young := some (newBk (2 * s.old.size)) } :: R) → Q .non H' := by rw [if_pos h1] at q; exact q
        obtain ⟨h1, h2⟩ := h1
        leaf_len
        intro x dx nx nd ne
        generalize hh : upd _ x _ = H1
        have O2 := O1.genM nx nd ne hh
        refine ⟨x, dx, 2 * s.old.size, _, rfl, O2, ?_, fun H2 B eB O3 => ⟨rfl, ?_⟩⟩
        · unfold SzOk at hsz ⊢
          omega
        subst eB
        leaf_len
        isplit
        rename_i H3 O4
        exact q H3 ⟨A.p, A.dx, A.old, B⟩ rfl (slots_join (s := { s with young := some (newBk (2 * s.old.size)) }) (A := ⟨A.p, A.dx, A.old, B⟩) O4.f2.f1)
      · rw [if_neg h1] at q
        by_cases h2 : 4 * s.number < s.old.size ∧ s.old.size > 4
        · have q : ∀ H' A', A'.p = A.p → Own H' (slotsC K A' { s with young := some (newBk (s.old.size / 2)) } :: R) → Q .non H' := by rw [if_pos h2] at q; exact q
          obtain ⟨h2, h3⟩ := h2
          have h4 : ¬ s.number > s.old.size := by omega
          leaf_len
          intro x dx nx nd ne
          generalize hh : upd _ x _ = H1
          have O2 := O1.genM nx nd ne hh
          refine ⟨x, dx, s.old.size / 2, _, rfl, O2, ?_, fun H2 B eB O3 => ⟨rfl, ?_⟩⟩
          · unfold SzOk at hsz ⊢
            omega
          subst eB
          leaf_len
          isplit
          rename_i H3 O4
          exact q H3 ⟨A.p, A.dx, A.old, B⟩ rfl (slots_join (s := { s with young := some (newBk (s.old.size / 2)) }) (A := ⟨A.p, A.dx, A.old, B⟩) O4.f2.f1)
        · rw [if_neg h2] at q
          have fin : Q .non H := q H A rfl (slots_join (by rw [hy]; exact O1.addNil.g2))
          leaf_len
          refine ifS (fun c1 => ?_) (fun c1 => ?_)
          · have c2 : ¬ s.old.size < 256 := by omega
            leaf_len
            have c3 : ¬ 4 * s.number < s.old.size := by omega
            leaf_len
            exact fin
          · leaf_len
            refine ifS (fun c1 => ?_) (fun c1 => ?_)
            · leaf_len
              exact fin
            · leaf_len
              exact fin
end
end SW
namespace SW
open PySem PySem.Spec PyProof.Rows L2
theorem bank_swap {K : PySem.W.Frag} {H H' : Hp} {R : List (List Ce)} {B : BankA} {b : Bk} {p : Addr} {i : Nat} (O : Own H ([.m p (.dK [])] :: bankC K B b :: R)) (hi : i < b.lots.length)
    (e : upd H B.ls (.lst ((B.ds.map V.ref).set i (.ref p))) = H') : Own H' (bankC K { B with ds := B.ds.set i p } { b with lots := b.lots.set i [] } :: R) := by
  have hl := bank_len O.f1
  have O1 := (bank_out O.f1 hi).drop
  have O2 : Own H ([.m p (.dK [])] :: (bankC K B b).eraseIdx (i + 3) :: R) := O1.f1
  have O3 := O2.put (by show i + 3 < (lotsC B.ds b.lots).length + 3; unfold lotsC; rw [List.length_zipWith, hl]; omega)
  have O4 : Own H ((.m B.p (.ins (He.ga K "Bank") B.dx (flBank (.int b.size) (.ref B.ls))) :: .m B.ls (.lst (B.ds.map V.ref)) :: pu (B.ds.length = b.lots.length) :: (lotsC B.ds b.lots).set i (.m p (.dK []))) :: R) := O3
  have O5 : Own H ([.m B.ls (.lst (B.ds.map V.ref))] :: (.m B.p (.ins (He.ga K "Bank") B.dx (flBank (.int b.size) (.ref B.ls))) :: pu (B.ds.length = b.lots.length) :: (lotsC B.ds b.lots).set i (.m p (.dK []))) :: R) := by nest_room
  have O6 := O5.genS e
  have e2 : (lotsC B.ds b.lots).set i (.m p (.dK [])) = lotsC (B.ds.set i p) (b.lots.set i []) := by
    unfold lotsC
    refine List.ext_getElem? fun j => ?_
    rw [List.getElem?_set]
    simp only [List.getElem?_zipWith, List.length_zipWith, hl, Nat.min_self]
    by_cases e : i = j
    · subst e
      simp [hi, hl, encD]
    · simp only [e, if_false]
      rw [List.getElem?_set_ne e, List.getElem?_set_ne e]
  have e3 : (B.ds.map V.ref).set i (.ref p) = (B.ds.set i p).map V.ref := List.map_set.symm
  have e4 : (B.ds.set i p).length = (b.lots.set i []).length ↔ B.ds.length = b.lots.length := by rw [List.length_set, List.length_set]
  unfold bankC
  dsimp only
  rw [e4, ← e2, ← e3]
  nest_room
section
variable {P : Program} {w : World} {K : PySem.W.Frag} {mg : Str → Option Value} {base : Heap}
def sp_Slots_move_next (K : PySem.W.Frag) : Sp := fun vs H Q _ => ∃ (A : SlotsA) (s : Sl) (R : List (List Ce)), vs = [.ref A.p] ∧ Own H (slotsC K A s :: R) ∧ s.Ok ∧ s.number ≤ 100000 ∧ ∀ H' A', A'.p = A.p → Own H' (slotsC K A' s.moveNext :: R) → Q .non H'
theorem sc_Slots_move_next : FnScope ["self", "key", "value"] ["self"] (defScope s_Slots_move_next) := ⟨rfl, rfl, rfl, by decide +kernel, rfl, by decide +kernel, by decide +kernel⟩
theorem ok_Slots_move_next (T : Txt K mg) : OkD P w K mg base 4 ("Slots", some "move_next") ["self"] [] (sp_Slots_move_next K) := by
  refine ok_of T.f_Slots_move_next sc_Slots_move_next (fun vs H Q E h => ?_) (fun dV kV doc pm an cdv ct us hl => match us, hl with | [_], _ => rfl) (fun cdv A outer s H vs Q E hr h => ?_)
  · obtain ⟨A, s, R, rfl, _⟩ := h
    rfl
  · obtain ⟨A, s, R, rfl, O, hs, hn, q⟩ := h
    have O1 := slots_split O
    have hsz := hs.old.sz
    unfold Sl.moveNext at q
    refine ⟨_, (pss_cons (ps_if (pt_cmpR op_isN (pe_Slots_young T (pv 0)) pe_non (nomark _))
      (pss_one ps_retN)
      pss_nil)
      (pss_cons (ps_lockS (ps_for (passes_of rfl) rfl (pi_items (pe_ix (ix_listK (K := K) rfl) (pe_Bank_lots T (pe_Slots_old T (pv 0))) (pe_Slots_shifted T (pv 0)) (fun _ _ => rfl))) (pg_tup rfl (pgs_cons (pg_name (i := 1) sc_Slots_move_next.nd rfl (Or.inl rfl)) (pgs_cons (pg_name (i := 2) sc_Slots_move_next.nd rfl (Or.inl rfl)) pgs_nil)))
      (pss_one (ps_expr (pe_bm PySem.F.plainAttrs_dict PySem.F.slot_dict_update PySem.F.type_dict_update mt_update (pe_GM (ok_Bank_lot_of (K := K) T) (pe_Slots_young T (pv 0)) T.cls_Bank T.me_Bank_lot_of gMBank_lot_of hr passL (pa_cons (pv 1) pa_nil)) (pa_cons (pe_disp (pps_cons (pv 1) (pv 2) pps_nil) (by rfl) (by rfl) (fun z => by cases z) (by decide)) pa_nil))))))
      (pss_cons (ps_asg pe_dnewK (pg_sub (pe_Bank_lots T (pe_Slots_old T (pv 0))) (pe_Slots_shifted T (pv 0)) set_list))
      (pss_cons (pa_Slots_shifted T (pv 0) pe_int in_add)
      (pss_one (ps_if (pt_cmpR op_eq (pe_Slots_shifted T (pv 0)) (pe_Bank_size T (pe_Slots_old T (pv 0))) (nomark _))
      (pss_cons (ps_Slots_old T (pv 0) (pe_Slots_young T (pv 0)))
      (pss_cons (ps_Slots_young T (pv 0) pe_non)
      (pss_one (ps_Slots_shifted T (pv 0) pe_int))))
      pss_nil)))))), ?_⟩
    try dsimp only [L2.cxOf]
    cases hy : s.young with
    | none =>
      have q := q H A rfl
      rw [hy] at O1 q
      have O1 : Own H (_ :: bankC K A.old s.old :: R) := O1.f2.nil
      leaf_len
      exact q O
    | some y =>
      rw [hy] at O1 q
      obtain ⟨hy1, hsh, hsz2, hemp, hyk⟩ := hs.yng y hy
      have O1 : Own H (_ :: bankC K A.old s.old :: bankC K A.yng y :: R) := O1
      leaf_len
      have hD : (s.old.lots.getD s.shifted []).length ≤ 100000 := by
        have := le_sum_nat s.old.lots s.shifted
        have h2 := hs.num
        unfold Bk.count at h2
        omega
      have hi : s.shifted < s.old.lots.length := by rw [hs.old.len]; exact hsh
      have hget : s.old.lots[s.shifted]? = some (s.old.lots.getD s.shifted []) := by
        rw [List.getD_eq_getElem?_getD, List.getElem?_eq_getElem hi]
        rfl
      have hpos : ∀ p ∈ s.old.lots.getD s.shifted [], 0 ≤ p.1 := fun p hp => (hs.old.at_ _ _ hget p hp).1
      have hcnt : y.count + (s.old.lots.getD s.shifted []).length ≤ 100000 := by
        have := le_sum_nat s.old.lots s.shifted
        have h2 : s.number = s.old.count + y.count := by
          have h := hs.num
          rw [hy] at h
          exact h
        have h3 : s.old.count = (s.old.lots.map List.length).sum := rfl
        omega
      generalize hlot : s.old.lots.getD s.shifted [] = lot at *
      have hlen := bank_len O1.f1
      have O2 := bank_out O1.f1 hi
      rw [hlot] at O2
      generalize hd : A.old.ds.getD s.shifted 0 = d at O2
      refine ⟨⟨d, .dK (encD lot), O2.at 0 0 rfl, trivial, fun od => ?_⟩⟩
      generalize hh : upd _ d _ = H1
      have O3 := Own.genS O2 hh
      clear hh
      leaf_len
      refine ⟨atI_nat (map_ref (by omega)), ?_⟩
      rw [hd]
      have hf := O3.at 0 0 rfl
      leaf_len
      refine forI (d := d) (od := od) (kvs := encD lot) (fun i σ H2 => Stp (∃ a b, σ = [some (V.ref A.p), a, b] ∧ Own H2 ([.m d (.frz od (.dK (encD lot)))] :: (bankC K A.old s.old).eraseIdx (s.shifted + 3) ::
        [.m A.p (.ins (He.ga K "Slots") A.dx (flSlots (.ref A.old.p) (.ref A.yng.p) (.int s.shifted) (.int s.number)))] :: bankC K A.yng (pour y (lot.take i)) :: R)))
        ⟨none, none, rfl, O3⟩ (fun i σ H2 ⟨_, _, _, O4⟩ => O4.at 0 0 rfl) ?_ ?_
      · rintro i k v t σ H2 hkv ⟨a, b, rfl, O4⟩ ht
        have hil : i < lot.length := by
          have h := (List.getElem?_eq_some_iff.mp hkv).1
          rw [len_enc] at h
          exact h
        obtain ⟨rfl, rfl⟩ : k = Sum.inl (lot[i].1) ∧ v = V.int lot[i].2 := by
          unfold encD at hkv
          rw [List.getElem?_map, List.getElem?_eq_getElem hil] at hkv
          have h := Option.some.inj hkv
          exact ⟨congrArg Prod.fst h.symm, congrArg Prod.snd h.symm⟩
        have hm : lot[i] ∈ lot := List.getElem_mem _
        have hk0 : 0 ≤ lot[i].1 := hpos _ hm
        have hpt : ∀ p ∈ lot.take i, 0 ≤ p.1 := fun p hp => hpos p (List.mem_of_mem_take hp)
        have hb := pour_ok (lot.take i) hy1 hpt
        have hc := pour_count (lot.take i) hy1 hpt
        have hll := lot_le (pour y (lot.take i)) lot[i].1
        rw [List.length_take] at hc
        have ets : lot.take (i + 1) = lot.take i ++ [lot[i]] := by rw [List.take_append_getElem hil]
        rw [ets, pour_snoc]
        generalize lot[i] = kv at *
        obtain ⟨k, v⟩ := kv
        generalize pour y (lot.take i) = y1 at *
        generalize hh : upd _ t _ = H3
        have O5 := Own.genT O4 ht hh
        clear hh
        dsimp only at *
        leaf_len
        have hbi := lot_in hb k
        have hbl := bank_len O5.f4
        have O6 := bank_out O5.f4 hbi
        refine ⟨Or.inr (Or.inr (Or.inl ⟨rfl, Or.inl ⟨_, O6.at 0 0 rfl⟩⟩)), ?_⟩
        leaf_len
        rename_i p hp H4 O7
        refine ⟨show [(kV (Sum.inl k), V.int v)] = List.map (fun kv : Key × V => (kV kv.1, kv.2)) [(Sum.inl k, V.int v)] from rfl, Nat.le_of_ble_eq_true rfl, ?_⟩
        none_booked
        rename_i H5 O8
        have hne := O8.f1.ne (b := p) (List.mem_append_right _ (List.mem_append_left _ List.mem_cons_self))
        rw [show mergeK [] [(Sum.inl k, V.int v)] = [(Sum.inl k, V.int v)] from rfl] at O8
        have hz : (encD (y1.lots.getD (ix k y1.size) [])).length + [((Sum.inl k : Key), V.int v)].length ≤ sizeLine := by
          have h1 : (y1.lots.getD (ix k y1.size) []).length ≤ y1.count := hll
          have h2 : 100002 ≤ sizeLine := by decide
          rw [len_enc, List.length_singleton]
          omega
        have hf2 := O8.at 1 0 rfl
        refine ⟨_, _, _, _, rfl, rfl, hne.symm, hf2, O8.at 0 0 rfl, hz, ?_⟩
        isplit
        rename_i H6 O9
        rw [show mergeK (encD (y1.lots.getD (ix k y1.size) [])) [(Sum.inl k, V.int v)] = encD (aput (y1.lot k) k v) from putK_enc _ k v] at O9
        have O10 := bank_in (O9.f2.f1) hbl hbi
        exact ⟨_, _, rfl, O10.drop1.drop1.g3⟩
      · rintro σ H2 ⟨a, b, rfl, O4⟩
        refine ⟨O4.at 0 0 rfl, ?_⟩
        none_booked
        rename_i H3 O5
        rw [len_enc, List.take_length] at O5
        have O5 := bank_in (B := A.old) (b := s.old) (l := lot) (i := s.shifted) (by rw [hd]; exact O5) hlen hi
        rw [show s.old.lots.set s.shifted lot = s.old.lots from by
          rw [← hlot, List.getD_eq_getElem?_getD, List.getElem?_eq_getElem hi]
          exact List.set_getElem_self hi] at O5
        have hy2 := pour_size lot y
        dsimp only at q
        generalize pour y lot = y2 at *
        leaf_len
        rename_i p hp H4 O6
        refine ⟨(show ixN (A.old.ds.map V.ref).length (s.shifted : Int) = some s.shifted by unfold ixN; rw [List.length_map, if_pos (by omega), if_pos (by omega)]; rfl), ?_⟩
        generalize hh : upd _ A.old.ls _ = H5
        have O7 := bank_swap O6 hi hh
        clear hh O6
        reads_via
        rename_i H6 O8
        have e0 : ((s.shifted : Int) + 1) = ((s.shifted + 1 : Nat) : Int) := by omega
        rw [e0] at O8 ⊢
        dsimp only at O8 ⊢
        by_cases hc : s.shifted + 1 = s.old.size
        · rw [hc]
          reads_via
          rename_i H7 O9
          refine q H7 ⟨A.p, A.dx, A.yng, A.yng⟩ rfl ?_
          rw [if_pos hc]
          have O10 : Own H7 ([.m A.p (.ins (He.ga K "Slots") A.dx (flSlots (.ref A.yng.p) .non (.int (0 : Nat)) (.int s.number)))] :: bankC K A.yng y2 :: R) := O9.f1.drop.f1.f1
          exact slots_join (A := ⟨A.p, A.dx, A.yng, A.yng⟩) (s := ⟨y2, none, 0, s.number⟩) O10.addNil.g2
        · have hc2 : ¬ V.int ((s.shifted + 1 : Nat) : Int) = V.int (s.old.size : Int) := by
            rw [V.int.injEq]
            omega
          reads_via
          refine q H6 ⟨A.p, A.dx, ⟨A.old.p, A.old.dx, A.old.ls, A.old.ds.set s.shifted p⟩, A.yng⟩ rfl ?_
          rw [if_neg hc]
          exact slots_join O8
end
end SW
namespace SW
variable {b y : Bk} {s : Sl} {l : List (Int × Int)} {k j v : Int}
theorem lot_setLot (h : b.Ok) (k j : Int) (l : List (Int × Int)) : (b.setLot k l).lot j = if ix k b.size = ix j b.size then l else b.lot j := by
  unfold Bk.lot Bk.setLot
  have hk := h.ix_lt k
  dsimp only
  rw [List.getD_eq_getElem?_getD, List.getElem?_set]
  split
  · simp [hk]
  · rfl
theorem lot_nd (h : b.Ok) (k : Int) : ANd (b.lot k) := h.nd _ (lot_mem h k)
theorem pour_look : ∀ (l : List (Int × Int)) {y : Bk}, y.Ok → (∀ p ∈ l, 0 ≤ p.1) → ANd l → aget ((pour y l).lot k) k = (aget l k).or (aget (y.lot k) k)
  | [], _, _, _, _ => rfl
  | p :: l, y, h, hp, hn => by
    have hn2 : ANd l := (List.nodup_cons.mp hn).2
    have hnm := (List.nodup_cons.mp hn).1
    rw [pour_cons, pour_look l (put_ok h (hp p List.mem_cons_self)) (fun q hq => hp q (List.mem_cons_of_mem _ hq)) hn2, aget_cons, lot_setLot h]
    by_cases e : p.1 = k
    · rw [if_pos e, e, if_pos rfl]
      have : aget l k = none := by
        cases hh : aget l k with
        | none => rfl
        | some v => exact absurd (List.mem_map_of_mem (f := (·.1)) (aget_mem hh)) (by rw [← e]; exact hnm)
      rw [this, aget_put, if_pos rfl]
      rfl
    · rw [if_neg e]
      congr 1
      split
      · rename_i e2
        rw [aget_put, if_neg (fun h => e h.symm)]
        unfold Bk.lot
        rw [e2]
      · rfl
theorem setLot_mem {q : List (Int × Int)} (h : q ∈ (b.setLot k l).lots) : q = l ∨ q ∈ b.lots := by
  rcases List.mem_or_eq_of_mem_set h with h | h
  · exact .inr h
  · exact .inl h
theorem pour_mem : ∀ (l : List (Int × Int)) {y : Bk}, y.Ok → (∀ p ∈ l, 0 ≤ p.1) → ∀ q ∈ (pour y l).lots, ∀ p ∈ q, p ∈ l ∨ ∃ r ∈ y.lots, p ∈ r
  | [], _, _, _, q, hq, p, hp => .inr ⟨q, hq, hp⟩
  | a :: l, y, h, hl, q, hq, p, hp => by
    rw [pour_cons] at hq
    rcases pour_mem l (put_ok h (hl a List.mem_cons_self)) (fun q hq => hl q (List.mem_cons_of_mem _ hq)) q hq p hp with h1 | ⟨r, hr, hpr⟩
    · exact .inl (List.mem_cons_of_mem _ h1)
    · rcases setLot_mem hr with e | hr
      · subst e
        rcases mem_put hpr with e | e
        · exact .inl (e ▸ List.mem_cons_self)
        · exact .inr ⟨_, lot_mem h _, e⟩
      · exact .inr ⟨r, hr, hpr⟩
theorem pour_count_eq : ∀ (l : List (Int × Int)) {y : Bk}, y.Ok → (∀ p ∈ l, 0 ≤ p.1) → ANd l → (∀ p ∈ l, aget (y.lot p.1) p.1 = none) → (pour y l).count = y.count + l.length
  | [], _, _, _, _, _ => rfl
  | a :: l, y, h, hl, hn, hy => by
    have hn2 : ANd l := (List.nodup_cons.mp hn).2
    have hnm := (List.nodup_cons.mp hn).1
    rw [pour_cons, pour_count_eq l (put_ok h (hl a List.mem_cons_self)) (fun q hq => hl q (List.mem_cons_of_mem _ hq)) hn2, count_put h, if_pos (hy a List.mem_cons_self), List.length_cons]
    · omega
    · intro p hp
      have e : p.1 ≠ a.1 := fun e => hnm (by show a.1 ∈ _; rw [← e]; exact List.mem_map_of_mem (f := (·.1)) hp)
      rw [lot_setLot h]
      split
      · rename_i e2
        rw [aget_put, if_neg e]
        have : y.lot a.1 = y.lot p.1 := by unfold Bk.lot; rw [e2]
        rw [this]
        exact hy p (List.mem_cons_of_mem _ hp)
      · exact hy p (List.mem_cons_of_mem _ hp)
theorem sum_nil : ∀ (l : List (List (Int × Int))), (∀ q ∈ l, q = []) → (l.map List.length).sum = 0
  | [], _ => rfl
  | q :: l, h => by
    rw [List.map_cons, List.sum_cons, sum_nil l fun q hq => h q (List.mem_cons_of_mem _ hq), h q List.mem_cons_self]
    rfl
theorem young_none {y : Bk} (hy : s.young = some y) (h : s.Ok) (hk : s.shifted ≤ ix k s.old.size) : aget (y.lot k) k = none := by
  obtain ⟨hy1, hsh, hsz2, hemp, hyk⟩ := h.yng y hy
  cases e : aget (y.lot k) k with
  | none => rfl
  | some v =>
    have := hyk _ (lot_mem hy1 k) _ (aget_mem e)
    dsimp only at this
    omega
theorem old_lot (h : b.Ok) {i : Nat} (hi : i < b.size) : b.lots[i]? = some (b.lots.getD i []) := by
  have : i < b.lots.length := by rw [h.len]; exact hi
  rw [List.getD_eq_getElem?_getD, List.getElem?_eq_getElem this]
  rfl
theorem moveNext_ok (h : s.Ok) : s.moveNext.Ok := by
  unfold Sl.moveNext
  cases hy : s.young with
  | none => exact h
  | some y =>
    obtain ⟨hy1, hsh, hsz2, hemp, hyk⟩ := h.yng y hy
    have hget := old_lot h.old hsh
    have hcs := sum_set_nat s.old.lots s.shifted [] (by rw [h.old.len]; exact hsh)
    generalize hl : s.old.lots.getD s.shifted [] = lot at *
    have hnd : ANd lot := h.old.nd _ (List.mem_of_getElem? hget)
    have hat := h.old.at_ _ _ hget
    have hpos : ∀ p ∈ lot, 0 ≤ p.1 := fun p hp => (hat p hp).1
    have hfr : ∀ p ∈ lot, aget (y.lot p.1) p.1 = none := fun p hp => young_none hy h (by rw [(hat p hp).2]; exact Nat.le_refl _)
    have hok := pour_ok lot hy1 hpos
    have hct := pour_count_eq lot hy1 hpos hnd hfr
    have hsize := pour_size lot y
    have hnum := h.num
    rw [hy] at hnum
    have hnum : s.number = s.old.count + y.count := hnum
    unfold Bk.count at hnum
    unfold Bk.count at hct
    dsimp only
    split
    · rename_i hfull
      have hz : ((s.old.lots.set s.shifted []).map List.length).sum = 0 := sum_nil _ (fun q hq => by
        obtain ⟨i, hi, e⟩ := List.mem_iff_getElem.mp hq
        rw [List.length_set] at hi
        rw [List.getElem_set] at e
        split at e
        · exact e.symm
        · have h1 := hemp i (by rw [h.old.len] at hi; omega)
          rw [List.getElem?_eq_getElem hi] at h1
          exact e.symm.trans (Option.some.inj h1))
      rw [List.length_nil] at hcs
      exact ⟨by show s.number = (pour y lot).count + 0; unfold Bk.count; omega, hok, fun _ e => (by cases e), fun _ => rfl⟩
    · rename_i hfull
      rw [List.length_nil] at hcs
      refine ⟨?_, ⟨h.old.sz, by rw [List.length_set]; exact h.old.len, ?_, ?_⟩, ?_, fun e => by cases e⟩
      · show s.number = ((s.old.lots.set s.shifted []).map List.length).sum + (pour y lot).count
        unfold Bk.count
        omega
      · intro q hq
        rcases List.mem_or_eq_of_mem_set hq with hq | hq
        · exact h.old.nd _ hq
        · rw [hq]
          exact List.nodup_nil
      · intro i q hq p hp
        rw [List.getElem?_set] at hq
        split at hq
        · split at hq
          · cases hq
            cases hp
          · cases hq
        · exact h.old.at_ i q hq p hp
      · intro y' e
        cases e
        refine ⟨hok, by show s.shifted + 1 < s.old.size; omega, by show (pour y lot).size = 2 * s.old.size ∨ s.old.size = 2 * (pour y lot).size; rw [hsize]; exact hsz2, ?_, ?_⟩
        · intro i hi
          show (s.old.lots.set s.shifted [])[i]? = some []
          rw [List.getElem?_set]
          split
          · rw [if_pos (by rw [h.old.len]; exact hsh)]
          · exact hemp i (by show i < s.shifted; have : i < s.shifted + 1 := hi; omega)
        · intro q hq p hp
          show ix p.1 s.old.size < s.shifted + 1
          rcases pour_mem lot hy1 hpos q hq p hp with h1 | ⟨r, hr, hpr⟩
          · rw [(hat p h1).2]
            omega
          · have := hyk r hr p hpr
            omega
theorem moveNext_number (s : Sl) : s.moveNext.number = s.number := by
  unfold Sl.moveNext
  cases s.young with
  | none => rfl
  | some y =>
    dsimp only
    split <;> rfl
theorem ix_old (h : s.Ok) (k : Int) : ix k s.old.size < s.old.size := ix_lt (by have := h.old.sz.pos; omega)
theorem moveNext_look (h : s.Ok) (k : Int) : s.moveNext.look k = s.look k := by
  unfold Sl.look Sl.moveNext
  cases hy : s.young with
  | none => rfl
  | some y =>
    obtain ⟨hy1, hsh, hsz2, hemp, hyk⟩ := h.yng y hy
    have hget := old_lot h.old hsh
    generalize hl : s.old.lots.getD s.shifted [] = lot at *
    have hnd : ANd lot := h.old.nd _ (List.mem_of_getElem? hget)
    have hat := h.old.at_ _ _ hget
    have hpos : ∀ p ∈ lot, 0 ≤ p.1 := fun p hp => (hat p hp).1
    have hix := ix_old h k
    have main : aget ((pour y lot).lot k) k = (aget lot k).or (aget (y.lot k) k) := pour_look lot hy1 hpos hnd
    have hlt : ix k s.old.size < s.shifted → aget lot k = none := fun hlt => by
      cases e : aget lot k with
      | none => rfl
      | some v =>
        have := (hat _ (aget_mem e)).2
        dsimp only at this
        omega
    have hsame : ix k s.old.size = s.shifted → s.old.lot k = lot := fun e => by
      unfold Bk.lot
      rw [e]
      exact hl
    have e0 : s.home k = if ix k s.old.size < s.shifted then y.lot k else s.old.lot k := by unfold Sl.home; rw [hy]
    rw [e0]
    dsimp only
    split
    · rename_i hfull
      show aget ((pour y lot).lot k) k = _
      rw [main]
      split
      · rename_i hc
        rw [hlt hc]
        rfl
      · rename_i hc
        rw [young_none hy h (by omega), hsame (by omega), Option.or_none]
    · show aget (if ix k s.old.size < s.shifted + 1 then (pour y lot).lot k else (s.old.lots.set s.shifted []).getD (ix k s.old.size) []) k = _
      by_cases hc : ix k s.old.size < s.shifted
      · rw [if_pos (by omega), if_pos hc, main, hlt hc]
        rfl
      · rw [if_neg hc]
        by_cases hc2 : ix k s.old.size = s.shifted
        · rw [if_pos (by omega), main, young_none hy h (by omega), hsame hc2, Option.or_none]
        · rw [if_neg (by omega), List.getD_eq_getElem?_getD, List.getElem?_set_ne (by omega), ← List.getD_eq_getElem?_getD]
          rfl
theorem home_nd (h : s.Ok) (k : Int) : ANd (s.home k) := by
  unfold Sl.home
  cases hy : s.young with
  | none => exact lot_nd h.old k
  | some y =>
    dsimp only
    split
    · exact lot_nd (h.yng y hy).1 k
    · exact lot_nd h.old k
theorem setLot_ok2 (h : b.Ok) (hk : 0 ≤ k) (hn : ANd l) (hl : ∀ p ∈ l, p.1 = k ∨ p ∈ b.lot k) : (b.setLot k l).Ok :=
  setLot_ok h hn fun p hp => by
    rcases hl p hp with e | e
    · rw [e]
      exact ⟨hk, rfl⟩
    · exact h.at_ _ _ (lot_get h k) p e
theorem setHome_ok (h : s.Ok) (hk : 0 ≤ k) (hn : ANd l) (hl : ∀ p ∈ l, p.1 = k ∨ p ∈ s.home k) (n : Nat) (hc : n + (s.home k).length = s.number + l.length) : ({ s.setHome k l with number := n } : Sl).Ok := by
  have hnum := h.num
  have hso := count_set (k := k) (l := l) h.old
  have hon : s.home k = s.old.lot k → (∀ y, s.young = some y → s.shifted ≤ ix k s.old.size) → ({ old := s.old.setLot k l, young := s.young, shifted := s.shifted, number := n } : Sl).Ok := fun e hge => by
    rw [e] at hl hc
    refine ⟨?_, setLot_ok2 h.old hk hn hl, ?_, h.one⟩
    · show n = (s.old.setLot k l).count + yCount s.young
      omega
    · intro y hy
      obtain ⟨hy1, hsh, hsz2, hemp, hyk⟩ := h.yng y hy
      refine ⟨hy1, hsh, hsz2, ?_, hyk⟩
      intro i hi
      show (s.old.lots.set (ix k s.old.size) l)[i]? = some []
      rw [List.getElem?_set_ne (by have : i < s.shifted := hi; have := hge y hy; omega)]
      exact hemp i hi
  unfold Sl.setHome
  unfold Sl.home at hl hc hon
  cases hy : s.young with
  | none =>
    rw [hy] at hon
    exact hon rfl (fun _ e => by cases e)
  | some y =>
    rw [hy] at hon hl hc hnum
    dsimp only at hon hl hc ⊢
    by_cases e : ix k s.old.size < s.shifted
    · rw [if_pos e] at hl hc ⊢
      obtain ⟨hy1, hsh, hsz2, hemp, hyk⟩ := h.yng y hy
      refine ⟨?_, h.old, ?_, fun e => by cases e⟩
      · show n = s.old.count + (y.setLot k l).count
        have hsy := count_set (k := k) (l := l) hy1
        have hnum : s.number = s.old.count + y.count := hnum
        omega
      · intro y' ey
        cases ey
        refine ⟨setLot_ok2 hy1 hk hn hl, hsh, hsz2, hemp, ?_⟩
        intro q hq p hp
        rcases setLot_mem hq with eq | hq
        · subst eq
          rcases hl p hp with e1 | e1
          · exact e1 ▸ e
          · exact hyk _ (lot_mem hy1 k) p e1
        · exact hyk q hq p hp
    · rw [if_neg e] at hl hc ⊢
      exact hon (if_neg e) (fun y' ey => by omega)
theorem setHome_home (h : s.Ok) (k j : Int) (l : List (Int × Int)) : (s.setHome k l).home j = l ∧ s.home j = s.home k ∨ (s.setHome k l).home j = s.home j ∧ j ≠ k := by
  have old : (s.old.setLot k l).lot j = l ∧ s.old.lot j = s.old.lot k ∨ (s.old.setLot k l).lot j = s.old.lot j ∧ ix k s.old.size ≠ ix j s.old.size := by
    rw [lot_setLot h.old]
    split
    · rename_i e
      exact .inl ⟨rfl, by unfold Bk.lot; rw [e]⟩
    · rename_i e
      exact .inr ⟨rfl, e⟩
  cases hy : s.young with
  | none =>
    have e1 : s.setHome k l = ⟨s.old.setLot k l, none, s.shifted, s.number⟩ := by
      unfold Sl.setHome
      rw [hy]
    have e2 (i : Int) : s.home i = s.old.lot i := by unfold Sl.home; rw [hy]
    rw [e1, e2 j, e2 k]
    rcases old with o | ⟨o, n⟩
    · exact .inl o
    · exact .inr ⟨o, fun e => n (by rw [e])⟩
  | some y =>
    have yl : (y.setLot k l).lot j = l ∧ y.lot j = y.lot k ∨ (y.setLot k l).lot j = y.lot j ∧ ix k y.size ≠ ix j y.size := by
      rw [lot_setLot (h.yng y hy).1]
      split
      · rename_i e
        exact .inl ⟨rfl, by unfold Bk.lot; rw [e]⟩
      · rename_i e
        exact .inr ⟨rfl, e⟩
    have e2 (i : Int) : s.home i = if ix i s.old.size < s.shifted then y.lot i else s.old.lot i := by unfold Sl.home; rw [hy]
    rw [e2 j, e2 k]
    by_cases ek : ix k s.old.size < s.shifted
    · have e1 : s.setHome k l = ⟨s.old, some (y.setLot k l), s.shifted, s.number⟩ := by
        unfold Sl.setHome
        rw [hy]
        exact if_pos ek
      rw [e1, if_pos ek]
      show (if ix j s.old.size < s.shifted then (y.setLot k l).lot j else s.old.lot j) = l ∧ _ ∨ (if ix j s.old.size < s.shifted then (y.setLot k l).lot j else s.old.lot j) = _ ∧ _
      by_cases ej : ix j s.old.size < s.shifted
      · rw [if_pos ej, if_pos ej]
        rcases yl with o | ⟨o, n⟩
        · exact .inl o
        · exact .inr ⟨o, fun e => n (by rw [e])⟩
      · rw [if_neg ej, if_neg ej]
        exact .inr ⟨rfl, fun e => ej (e ▸ ek)⟩
    · have e1 : s.setHome k l = ⟨s.old.setLot k l, some y, s.shifted, s.number⟩ := by
        unfold Sl.setHome
        rw [hy]
        dsimp only
        rw [if_neg ek]
      rw [e1, if_neg ek]
      show (if ix j s.old.size < s.shifted then y.lot j else (s.old.setLot k l).lot j) = l ∧ _ ∨ (if ix j s.old.size < s.shifted then y.lot j else (s.old.setLot k l).lot j) = _ ∧ _
      by_cases ej : ix j s.old.size < s.shifted
      · rw [if_pos ej, if_pos ej]
        exact .inr ⟨rfl, fun e => ek (e ▸ ej)⟩
      · rw [if_neg ej, if_neg ej]
        rcases old with o | ⟨o, n⟩
        · exact .inl o
        · exact .inr ⟨o, fun e => n (by rw [e])⟩
theorem newBk_lot (n : Nat) (k : Int) : (newBk n).lot k = [] := by
  unfold newBk Bk.lot
  dsimp only
  rw [List.getD_eq_getElem?_getD, List.getElem?_replicate]
  split <;> rfl
theorem newBk_ok {n : Nat} (h : SzOk n) : (newBk n).Ok := by
  refine ⟨h, List.length_replicate, ?_, ?_⟩
  · intro l hl
    rw [(List.mem_replicate.mp hl).2]
    exact List.nodup_nil
  · intro i l hl p hp
    have hl : (List.replicate n ([] : List (Int × Int)))[i]? = some l := hl
    rw [List.getElem?_replicate] at hl
    split at hl
    · cases hl
      cases hp
    · cases hl
theorem newBk_count (n : Nat) : (newBk n).count = 0 := sum_nil _ fun q hq => (List.mem_replicate.mp hq).2
theorem beginRow_number (s : Sl) : s.beginRow.number = s.number := by
  unfold Sl.beginRow
  cases s.young with
  | some y => rfl
  | none =>
    dsimp only
    split
    · rfl
    · split <;> rfl
theorem begin_ok {n : Nat} (h : s.Ok) (hy : s.young = none) (hz : SzOk n) (h2 : n = 2 * s.old.size ∨ s.old.size = 2 * n) : ({ s with young := some (newBk n) } : Sl).Ok := by
  have hnum := h.num
  rw [hy] at hnum
  refine ⟨?_, h.old, ?_, fun e => by cases e⟩
  · show s.number = s.old.count + (newBk n).count
    rw [newBk_count]
    exact hnum
  · intro y e
    cases e
    have h0 := h.one hy
    have hp := h.old.sz.pos
    refine ⟨newBk_ok hz, by show s.shifted < s.old.size; omega, h2, fun i hi => ?_, fun l hl p hp => ?_⟩
    · have : i < s.shifted := hi
      omega
    · rw [(List.mem_replicate.mp hl).2] at hp
      cases hp
theorem beginRow_ok (h : s.Ok) : s.beginRow.Ok := by
  unfold Sl.beginRow
  cases hy : s.young with
  | some y => exact h
  | none =>
    have hz := h.old.sz
    dsimp only
    split
    · rename_i c
      refine begin_ok h hy ?_ (.inl rfl)
      unfold SzOk at *
      omega
    · split
      · rename_i c
        refine begin_ok h hy ?_ (.inr ?_) <;> unfold SzOk at * <;> omega
      · exact h
theorem begin_look {n : Nat} (h : s.Ok) (hy : s.young = none) (k : Int) : ({ s with young := some (newBk n) } : Sl).look k = s.look k := by
  have h0 := h.one hy
  unfold Sl.look Sl.home
  rw [hy]
  dsimp only
  rw [if_neg (by omega)]
theorem beginRow_look (h : s.Ok) (k : Int) : s.beginRow.look k = s.look k := by
  unfold Sl.beginRow
  cases hy : s.young with
  | some y => rfl
  | none =>
    dsimp only
    split
    · exact begin_look h hy k
    · split
      · exact begin_look h hy k
      · rfl
/-! ### the deeds -/
theorem put_num {n : Nat} (s : Sl) (k : Int) : (if aget (s.home k) k = none then ({ s with number := n } : Sl) else s).home k = s.home k := by
  split <;> rfl
def Sl.put1 (s : Sl) (k v : Int) : Sl := { s.setHome k (aput (s.home k) k v) with number := s.number + if aget (s.home k) k = none then 1 else 0 }
def Sl.drop1 (s : Sl) (k : Int) : Sl := { s.setHome k (adel (s.home k) k) with number := s.number - 1 }
theorem put1_ok (h : s.Ok) (hk : 0 ≤ k) : (s.put1 k v).Ok := by
  refine setHome_ok h hk (and_put (home_nd h k) k v) (fun p hp => ?_) _ ?_
  · rcases mem_put hp with e | e
    · exact .inl (e ▸ rfl)
    · exact .inr e
  · rw [len_put]
    omega
theorem drop1_ok (h : s.Ok) (hk : 0 ≤ k) (hh : (s.look k).isSome = true) : (s.drop1 k).Ok := by
  have h1 := len_del (home_nd h k) hh
  have h2 : (s.home k).length ≤ s.number := by
    have hnum := h.num
    have ho := lot_le s.old k
    unfold Sl.home
    cases hy : s.young with
    | none =>
      dsimp only
      omega
    | some y =>
      rw [hy] at hnum
      have hnum : s.number = s.old.count + y.count := hnum
      have hyl := lot_le y k
      dsimp only
      split <;> omega
  refine setHome_ok h hk (and_del (home_nd h k) k) (fun p hp => .inr (mem_del hp).1) _ ?_
  omega
theorem setHome_number (s : Sl) (k : Int) (l : List (Int × Int)) : (s.setHome k l).number = s.number := by
  unfold Sl.setHome
  cases s.young with
  | none => rfl
  | some y =>
    dsimp only
    split <;> rfl
theorem num_home {n : Nat} (s : Sl) (j : Int) : ({ s with number := n } : Sl).home j = s.home j := rfl
theorem put1_look (h : s.Ok) (k j v : Int) : (s.put1 k v).look j = if j = k then some v else s.look j := by
  show aget ((s.setHome k (aput (s.home k) k v)).home j) j = if j = k then some v else aget (s.home j) j
  rcases setHome_home h k j (aput (s.home k) k v) with ⟨e1, e2⟩ | ⟨e1, e2⟩
  · rw [e1, aget_put, e2]
  · rw [e1, if_neg e2]
theorem drop1_look (h : s.Ok) (k j : Int) : (s.drop1 k).look j = if j = k then none else s.look j := by
  show aget ((s.setHome k (adel (s.home k) k)).home j) j = if j = k then none else aget (s.home j) j
  rcases setHome_home h k j (adel (s.home k) k) with ⟨e1, e2⟩ | ⟨e1, e2⟩
  · rw [e1, aget_del, e2]
  · rw [e1, if_neg e2]
theorem setHome_num (s : Sl) (k : Int) (l : List (Int × Int)) (n : Nat) : ({ s with number := n } : Sl).setHome k l = { s.setHome k l with number := n } := by
  obtain ⟨o, y, sh, m⟩ := s
  cases y with
  | none => rfl
  | some y =>
    show (if ix k o.size < sh then (⟨o, some (y.setLot k l), sh, n⟩ : Sl) else ⟨o.setLot k l, some y, sh, n⟩) = { (if ix k o.size < sh then (⟨o, some (y.setLot k l), sh, m⟩ : Sl) else ⟨o.setLot k l, some y, sh, m⟩) with number := n }
    split <;> rfl
theorem put_eq (s : Sl) (k v : Int) : s.put k v = (s.moveNext.put1 k v).beginRow := by
  unfold Sl.put Sl.put1
  generalize s.moveNext = t
  dsimp only
  congr 1
  split
  · rename_i e
    exact setHome_num t k _ _
  · rename_i e
    have := setHome_number t k (aput (t.home k) k v)
    rw [Nat.add_zero, ← this]
theorem drop_eq (s : Sl) (k : Int) : s.drop k = (s.moveNext.drop1 k).beginRow := by
  unfold Sl.drop Sl.drop1
  dsimp only
  rw [setHome_number]
theorem sput_ok (h : s.Ok) (hk : 0 ≤ k) : (s.put k v).Ok := by
  rw [put_eq]
  exact beginRow_ok (put1_ok (moveNext_ok h) hk)
theorem sdrop_ok (h : s.Ok) (hk : 0 ≤ k) (hh : (s.look k).isSome = true) : (s.drop k).Ok := by
  rw [drop_eq]
  exact beginRow_ok (drop1_ok (moveNext_ok h) hk (by rw [moveNext_look h]; exact hh))
theorem sput_look (h : s.Ok) (hk : 0 ≤ k) (j v : Int) : (s.put k v).look j = if j = k then some v else s.look j := by
  rw [put_eq, beginRow_look (put1_ok (moveNext_ok h) hk), put1_look (moveNext_ok h), moveNext_look h]
theorem sdrop_look (h : s.Ok) (hk : 0 ≤ k) (hh : (s.look k).isSome = true) (j : Int) : (s.drop k).look j = if j = k then none else s.look j := by
  rw [drop_eq, beginRow_look (drop1_ok (moveNext_ok h) hk (by rw [moveNext_look h]; exact hh)), drop1_look (moveNext_ok h), moveNext_look h]
theorem sput_number (h : s.Ok) (k v : Int) : (s.put k v).number = s.number + if s.look k = none then 1 else 0 := by
  rw [put_eq, beginRow_number]
  show s.moveNext.number + (if s.moveNext.look k = none then 1 else 0) = _
  rw [moveNext_number, moveNext_look h]
theorem sdrop_number (s : Sl) (k : Int) : (s.drop k).number = s.number - 1 := by
  rw [drop_eq, beginRow_number]
  show s.moveNext.number - 1 = _
  rw [moveNext_number]
theorem newSl_ok : newSl.Ok := ⟨by show 0 = (newBk 4).count + 0; rw [newBk_count], newBk_ok (.inl rfl), fun _ e => (by cases e), fun _ => rfl⟩
theorem newSl_look (k : Int) : newSl.look k = none := by
  show aget ((newBk 4).lot k) k = none
  rw [newBk_lot]
  rfl
end SW
namespace SW
open PySem PySem.Spec PyProof.Rows L2
theorem dget_enc {H : Hp} {d : Addr} {l : List (Int × Int)} (h : H d = some (.dK (encD l))) (k : Int) : DGet H d (.int k) ((aget l k).map V.int) := by
  have g := DGet.k (k := Sum.inl k) h
  rw [valV_enc] at g
  exact g
theorem some_map {o : Option Int} : (o.map V.int).isSome = o.isSome := by cases o <;> rfl
theorem home_le {s : Sl} (h : s.Ok) (k : Int) : (s.home k).length ≤ s.number := by
  have hnum := h.num
  have ho := lot_le s.old k
  unfold Sl.home
  cases hy : s.young with
  | none =>
    dsimp only
    omega
  | some y =>
    rw [hy] at hnum
    have hnum : s.number = s.old.count + y.count := hnum
    have hyl := lot_le y k
    dsimp only
    split <;> omega
section
variable {P : Program} {w : World} {K : PySem.W.Frag} {mg : Str → Option Value} {base : Heap}
def sp_Slots_has (K : PySem.W.Frag) : Sp := fun vs H Q _ => ∃ (A : SlotsA) (s : Sl) (R : List (List Ce)) (k : Int), vs = [.ref A.p, .int k] ∧ Own H (slotsC K A s :: R) ∧ s.Ok ∧ 0 ≤ k ∧ Q (.bl (s.look k).isSome) H
theorem sc_Slots_has : FnScope ["self", "key"] ["self", "key"] (defScope s_Slots_has) := ⟨rfl, rfl, rfl, by decide +kernel, rfl, by decide +kernel, by decide +kernel⟩
theorem ok_Slots_has (T : Txt K mg) : OkD P w K mg base 5 ("Slots", some "has") ["self", "key"] [] (sp_Slots_has K) := by
  refine ok_of T.f_Slots_has sc_Slots_has (fun vs H Q E h => ?_) (fun dV kV doc pm an cdv ct us hl => match us, hl with | [_, _], _ => rfl) (fun cdv A outer s H vs Q E hr h => ?_)
  · obtain ⟨A, s, R, k, rfl, _⟩ := h
    rfl
  · obtain ⟨A, s, R, k, rfl, O, hs, hk, q⟩ := h
    refine ⟨_, (pss_one (ps_ret (pe_cmp (pc_din (hu_of hr) (pv 1) (pe_GM (ok_Slots_home (K := K) T) (pv 0) T.cls_Slots T.me_Slots_home gMSlots_home hr passL (pa_cons (pv 1) pa_nil)))))), ?_⟩
    try dsimp only [L2.cxOf]
    leaf_len
    refine ⟨dget_enc (home_at O hs k) k, ?_⟩
    rw [some_map]
    exact q
def sp_Slots_put (K : PySem.W.Frag) : Sp := fun vs H Q _ => ∃ (A : SlotsA) (s : Sl) (R : List (List Ce)) (k v : Int), vs = [.ref A.p, .int k, .int v] ∧ Own H (slotsC K A s :: R) ∧ s.Ok ∧ 0 ≤ k ∧ s.number < 100000 ∧
  ∀ H' A', A'.p = A.p → Own H' (slotsC K A' (s.put k v) :: R) → Q .non H'
theorem sc_Slots_put : FnScope ["self", "key", "value", "lot"] ["self", "key", "value"] (defScope s_Slots_put) := ⟨rfl, rfl, rfl, by decide +kernel, rfl, by decide +kernel, by decide +kernel⟩
theorem ok_Slots_put (T : Txt K mg) : OkD P w K mg base 6 ("Slots", some "put") ["self", "key", "value"] [] (sp_Slots_put K) := by
  refine ok_of T.f_Slots_put sc_Slots_put (fun vs H Q E h => ?_) (fun dV kV doc pm an cdv ct us hl => match us, hl with | [_, _, _], _ => rfl) (fun cdv A outer s H vs Q E hr h => ?_)
  · obtain ⟨A, s, R, k, v, rfl, _⟩ := h
    rfl
  · obtain ⟨A, s, R, k, v, rfl, O, hs, hk, hn, q⟩ := h
    rw [put_eq] at q
    refine ⟨_, (pss_cons (ps_expr (pe_GM0 (ok_Slots_move_next (K := K) T) (pv 0) T.cls_Slots T.me_Slots_move_next gMSlots_move_next hr passL))
      (pss_cons (ps_set (i := 3) sc_Slots_put.nd rfl (Or.inl rfl) (pe_GM (ok_Slots_home (K := K) T) (pv 0) T.cls_Slots T.me_Slots_home gMSlots_home hr passL (pa_cons (pv 1) pa_nil)))
      (pss_cons (ps_if (pt_cmp (pc_dnotin (hu_of hr) (pv 1) (pv 3)))
      (pss_one (pa_Slots_number T (pv 0) pe_int in_add))
      pss_nil)
      (pss_cons (ps_dput (hu_of hr) (pv 3) (pv 1) (pv 2) rfl)
      (pss_one (ps_expr (pe_GM0 (ok_Slots_begin_row (K := K) T) (pv 0) T.cls_Slots T.me_Slots_begin_row gMSlots_begin_row hr passL))))))), ?_⟩
    try dsimp only [L2.cxOf]
    leaf_len
    intro H1 A1 eA O1
    rw [← eA] at q ⊢
    clear O eA
    have hs1 := moveNext_ok hs
    have hn1 := moveNext_number s
    generalize s.moveNext = t at *
    leaf_len
    refine ⟨dget_enc (home_at O1 hs1 k) k, ?_⟩
    rw [some_map]
    have fin : ∀ H2 n, Own H2 (slotsC K A1 ({ t with number := n } : Sl) :: R) → n = t.number + (if aget (t.home k) k = none then 1 else 0) → ((t.home k).length ≤ 100000) → DPut H2 (homeAd A1 t k) (.int k) (.int v) (upd H2 (homeAd A1 t k) (.dK (encD (aput (t.home k) k v)))) ∧
      tDrop (tGM (ISlots K) (sp_Slots_begin_row K) [] E0 (tVar 0) tNil) { nx := fun _ H' => Q .non H', rt := Q } [some (.ref A1.p), some (.int k), some (.int v), some (.ref (homeAd A1 t k))] (upd H2 (homeAd A1 t k) (.dK (encD (aput (t.home k) k v)))) := by
      intro H2 n O2 en hlen
      have hat : H2 (homeAd A1 t k) = some (.dK (encD (t.home k))) := home_at0 O2 hs1.old (fun y hy => (hs1.yng y hy).1) k
      have hset := home_set0 (l := aput (t.home k) k v) O2 hs1.old (fun y hy => (hs1.yng y hy).1) k
      rw [setHome_num, en] at hset
      have hset : Own (upd H2 (homeAd A1 t k) (.dK (encD (aput (t.home k) k v)))) (slotsC K A1 (t.put1 k v) :: R) := hset
      have hput := DPut.k (k := Sum.inl k) (v := .int v) hat (by rw [len_enc]; exact small_size hlen)
      rw [putK_enc] at hput
      have hok := put1_ok (v := v) hs1 hk
      clear O2 O1
      refine ⟨hput, ?_⟩
      generalize upd H2 _ _ = H3 at *
      leaf_len
      intro H4 A4 e4 O4
      exact q _ _ e4 O4
    have hll : (t.home k).length ≤ 100000 := by
      have := home_le hs1 k
      omega
    cases hl : aget (t.home k) k with
    | none =>
      refine ⟨_, rfl, ?_⟩
      reads_via
      rename_i H2 O2
      obtain ⟨d, c⟩ := fin _ (t.number + 1) O2 (by rw [if_pos hl]) hll
      exact ⟨d, c⟩
    | some x =>
      refine ⟨_, rfl, ?_⟩
      leaf_len
      obtain ⟨d, c⟩ := fin _ t.number O1 (by rw [if_neg (by rw [hl]; intro h; cases h), Nat.add_zero]) hll
      exact ⟨d, c⟩
def sp_Slots_sure (K : PySem.W.Frag) : Sp := fun vs H Q _ => ∃ (A : SlotsA) (s : Sl) (R : List (List Ce)) (k : Int), vs = [.ref A.p, .int k] ∧ Own H (slotsC K A s :: R) ∧ s.Ok ∧ 0 ≤ k ∧ (s.look k).isSome = true ∧ Q (.ref (homeAd A s k)) H
theorem sc_Slots_sure : FnScope ["self", "key", "lot"] ["self", "key"] (defScope s_Slots_sure) := ⟨rfl, rfl, rfl, by decide +kernel, rfl, by decide +kernel, by decide +kernel⟩
theorem ok_Slots_sure (T : Txt K mg) : OkD P w K mg base 5 ("Slots", some "sure") ["self", "key"] [] (sp_Slots_sure K) := by
  refine ok_of T.f_Slots_sure sc_Slots_sure (fun vs H Q E h => ?_) (fun dV kV doc pm an cdv ct us hl => match us, hl with | [_, _], _ => rfl) (fun cdv A outer s H vs Q E hr h => ?_)
  · obtain ⟨A, s, R, k, rfl, _⟩ := h
    rfl
  · obtain ⟨A, s, R, k, rfl, O, hs, hk, hh, q⟩ := h
    refine ⟨_, (pss_cons (ps_set (i := 2) sc_Slots_sure.nd rfl (Or.inl rfl) (pe_GM (ok_Slots_home (K := K) T) (pv 0) T.cls_Slots T.me_Slots_home gMSlots_home hr passL (pa_cons (pv 1) pa_nil)))
      (pss_cons (ps_if (pt_cmp (pc_dnotin (hu_of hr) (pv 1) (pv 2)))
      (pss_one ps_never)
      pss_nil)
      (pss_one (ps_ret (pv 2))))), ?_⟩
    try dsimp only [L2.cxOf]
    leaf_len
    refine ⟨dget_enc (home_at O hs k) k, ?_⟩
    rw [some_map, show (aget (s.home k) k).isSome = true from hh]
    leaf_len
    exact q
def sp_Slots_get (K : PySem.W.Frag) : Sp := fun vs H Q _ => ∃ (A : SlotsA) (s : Sl) (R : List (List Ce)) (k v : Int), vs = [.ref A.p, .int k] ∧ Own H (slotsC K A s :: R) ∧ s.Ok ∧ 0 ≤ k ∧ s.look k = some v ∧ Q (.int v) H
theorem sc_Slots_get : FnScope ["self", "key"] ["self", "key"] (defScope s_Slots_get) := ⟨rfl, rfl, rfl, by decide +kernel, rfl, by decide +kernel, by decide +kernel⟩
theorem ok_Slots_get (T : Txt K mg) : OkD P w K mg base 6 ("Slots", some "get") ["self", "key"] [] (sp_Slots_get K) := by
  refine ok_of T.f_Slots_get sc_Slots_get (fun vs H Q E h => ?_) (fun dV kV doc pm an cdv ct us hl => match us, hl with | [_, _], _ => rfl) (fun cdv A outer s H vs Q E hr h => ?_)
  · obtain ⟨A, s, R, k, v, rfl, _⟩ := h
    rfl
  · obtain ⟨A, s, R, k, v, rfl, O, hs, hk, hh, q⟩ := h
    have hh2 : (s.look k).isSome = true := by rw [hh]; rfl
    refine ⟨_, (pss_one (ps_ret (pe_dget (hu_of hr) (pe_GM (ok_Slots_sure (K := K) T) (pv 0) T.cls_Slots T.me_Slots_sure gMSlots_sure hr passL (pa_cons (pv 1) pa_nil)) (pv 1) (fun _ _ => rfl)))), ?_⟩
    try dsimp only [L2.cxOf]
    leaf_len
    have g := dget_enc (home_at O hs k) k
    rw [show aget (s.home k) k = some v from hh] at g
    exact ⟨g, q⟩
def sp_Slots_many (K : PySem.W.Frag) : Sp := fun vs H Q _ => ∃ (A : SlotsA) (s : Sl) (R : List (List Ce)), vs = [.ref A.p] ∧ Own H (slotsC K A s :: R) ∧ Q (.int s.number) H
theorem sc_Slots_many : FnScope ["self"] ["self"] (defScope s_Slots_many) := ⟨rfl, rfl, rfl, by decide +kernel, rfl, by decide +kernel, by decide +kernel⟩
theorem ok_Slots_many (T : Txt K mg) : OkD P w K mg base 4 ("Slots", some "many") ["self"] [] (sp_Slots_many K) := by
  refine ok_of T.f_Slots_many sc_Slots_many (fun vs H Q E h => ?_) (fun dV kV doc pm an cdv ct us hl => match us, hl with | [_], _ => rfl) (fun cdv A outer s H vs Q E hr h => ?_)
  · obtain ⟨A, s, R, rfl, _⟩ := h
    rfl
  · obtain ⟨A, s, R, rfl, O, q⟩ := h
    refine ⟨_, (pss_one (ps_ret (pe_Slots_number T (pv 0)))), ?_⟩
    try dsimp only [L2.cxOf]
    leaf_len
    exact q
def sp_Slots_drop (K : PySem.W.Frag) : Sp := fun vs H Q _ => ∃ (A : SlotsA) (s : Sl) (R : List (List Ce)) (k : Int), vs = [.ref A.p, .int k] ∧ Own H (slotsC K A s :: R) ∧ s.Ok ∧ 0 ≤ k ∧ s.number ≤ 100000 ∧ (s.look k).isSome = true ∧
  ∀ H' A', A'.p = A.p → Own H' (slotsC K A' (s.drop k) :: R) → Q .non H'
theorem sc_Slots_drop : FnScope ["self", "key"] ["self", "key"] (defScope s_Slots_drop) := ⟨rfl, rfl, rfl, by decide +kernel, rfl, by decide +kernel, by decide +kernel⟩
theorem ok_Slots_drop (T : Txt K mg) : OkD P w K mg base 6 ("Slots", some "drop") ["self", "key"] [] (sp_Slots_drop K) := by
  refine ok_of T.f_Slots_drop sc_Slots_drop (fun vs H Q E h => ?_) (fun dV kV doc pm an cdv ct us hl => match us, hl with | [_, _], _ => rfl) (fun cdv A outer s H vs Q E hr h => ?_)
  · obtain ⟨A, s, R, k, rfl, _⟩ := h
    rfl
  · obtain ⟨A, s, R, k, rfl, O, hs, hk, hn, hh, q⟩ := h
    rw [drop_eq] at q
    refine ⟨_, (pss_cons (ps_expr (pe_GM (ok_Slots_sure (K := K) T) (pv 0) T.cls_Slots T.me_Slots_sure gMSlots_sure hr passL (pa_cons (pv 1) pa_nil)))
      (pss_cons (ps_expr (pe_GM0 (ok_Slots_move_next (K := K) T) (pv 0) T.cls_Slots T.me_Slots_move_next gMSlots_move_next hr passL))
      (pss_cons (ps_expr (pe_dpop1 (pe_GM (ok_Slots_home (K := K) T) (pv 0) T.cls_Slots T.me_Slots_home gMSlots_home hr passL (pa_cons (pv 1) pa_nil)) (pv 1) ⟨rfl, rfl, rfl, rfl⟩))
      (pss_cons (pa_Slots_number T (pv 0) pe_int in_sub)
      (pss_one (ps_expr (pe_GM0 (ok_Slots_begin_row (K := K) T) (pv 0) T.cls_Slots T.me_Slots_begin_row gMSlots_begin_row hr passL))))))), ?_⟩
    try dsimp only [L2.cxOf]
    leaf_len
    intro H1 A1 eA O1
    rw [← eA] at q ⊢
    clear O eA
    have hs1 := moveNext_ok hs
    have hn1 := moveNext_number s
    rw [← moveNext_look hs] at hh
    generalize s.moveNext = t at *
    have hat := home_at O1 hs1 k
    have hset := home_set (l := adel (t.home k) k) O1 hs1 k
    leaf_len
    refine ⟨.inl ⟨_, .inl hat⟩, ?_⟩
    have hv : valV (encD (t.home k)) (Sum.inl k : Key) = some (.int ((t.look k).get hh)) := by
      rw [valV_enc, show aget (t.home k) k = some ((t.look k).get hh) from (Option.some_get hh).symm]
      rfl
    refine ⟨_, rfl, encD (t.home k), Sum.inl k, _, hat, rfl, hv, ?_⟩
    rw [dropK_enc]
    have hok := drop1_ok hs1 hk hh
    have hn0 : 0 < t.number := by
      have h1 := len_del (home_nd hs1 k) hh
      have h2 := home_le hs1 k
      omega
    generalize upd H1 _ _ = H2 at *
    clear O1
    reads_via
    rename_i H3 O3
    have O4 : Own H3 (slotsC K A1 (t.drop1 k) :: R) := by
      have e : ((t.setHome k (adel (t.home k) k)).number : Int) - 1 = ((t.number - 1 : Nat) : Int) := by
        rw [setHome_number]
        omega
      rw [e] at O3
      exact O3
    exact ⟨O4, hok, fun H4 A4 e4 O5 => q _ _ e4 O5⟩
end
end SW
namespace SW
open PySem PySem.Spec PyProof.Rows L2
section
variable {α : Type} {f : Addr → α → List Ce} {ds : List Addr} {ls : List α} {H : Hp} {R : List (List Ce)} {i : Nat} {d : Addr} {l : α}
/-- objects in a row, each with its cells -/
def boxC (f : Addr → α → List Ce) (ds : List Addr) (ls : List α) : List Ce := pu (ds.length = ls.length) :: (List.zipWith f ds ls).flatten
theorem box_len (O : Own H (boxC f ds ls :: R)) : ds.length = ls.length := O.fact 0 0 rfl
theorem box_flat (O : Own H (boxC f ds ls :: R)) : Own H ((List.zipWith f ds ls).flatten :: R) := (Own.splitC (c := pu (ds.length = ls.length)) O).drop
theorem box_of (O : Own H ((List.zipWith f ds ls).flatten :: R)) (h : ds.length = ls.length) : Own H (boxC f ds ls :: R) := (O.addU h).joinC
theorem zip_split (hl : ds.length = ls.length) (h : ls[i]? = some l) : List.zipWith f ds ls = List.zipWith f (ds.take i) (ls.take i) ++ f (ds.getD i 0) l :: List.zipWith f (ds.drop (i + 1)) (ls.drop (i + 1)) := by
  obtain ⟨hi, rfl⟩ := List.getElem?_eq_some_iff.mp h
  have e1 : ls = ls.take i ++ ls[i] :: ls.drop (i + 1) := by simp
  have e2 : ds = ds.take i ++ ds[i] :: ds.drop (i + 1) := by simp
  have e3 : ds.getD i 0 = ds[i] := by rw [List.getD_eq_getElem?_getD, List.getElem?_eq_getElem (by omega)]; rfl
  rw [e3]
  conv => lhs; rw [e1, e2]
  rw [List.zipWith_append (by simp [List.length_take, hl]), List.zipWith_cons_cons]
theorem box_out (O : Own H (boxC f ds ls :: R)) (h : ls[i]? = some l) : Own H (f (ds.getD i 0) l :: boxC f (ds.eraseIdx i) (ls.eraseIdx i) :: R) := by
  have hl := box_len O
  obtain ⟨hi, _⟩ := List.getElem?_eq_some_iff.mp h
  have O1 := box_flat O
  rw [zip_split hl h] at O1
  have hp : (List.zipWith f (ds.take i) (ls.take i)).length = i := by rw [List.length_zipWith, List.length_take, List.length_take]; omega
  have O2 : Own H ((List.zipWith f (ds.eraseIdx i) (ls.eraseIdx i)).flatten :: f (ds.getD i 0) l :: R) := by
    rw [List.eraseIdx_eq_take_drop_succ, List.eraseIdx_eq_take_drop_succ, List.zipWith_append (by simp [List.length_take, hl])]
    refine O1.perm ?_
    simp only [List.flatten_cons, List.flatten_append, List.append_assoc]
    exact List.Perm.append_left _ (perm1 _ _ _)
  exact (box_of O2 (by rw [List.length_eraseIdx, List.length_eraseIdx, hl])).f1
theorem box_in (O : Own H (f d l :: boxC f (ds.eraseIdx i) (ls.eraseIdx i) :: R)) (hl : ds.length = ls.length) (hi : i < ls.length) : Own H (boxC f (ds.set i d) (ls.set i l) :: R) := by
  have O1 := box_flat O.f1
  refine box_of ?_ (by rw [List.length_set, List.length_set, hl])
  have h : (ls.set i l)[i]? = some l := List.getElem?_set_self hi
  rw [zip_split (by rw [List.length_set, List.length_set, hl]) h]
  have e : (ds.set i d).getD i 0 = d := by rw [List.getD_eq_getElem?_getD, List.getElem?_set_self (by omega)]; rfl
  rw [List.eraseIdx_eq_take_drop_succ, List.eraseIdx_eq_take_drop_succ, List.zipWith_append (by simp [List.length_take, hl])] at O1
  rw [e, List.take_set_of_le (Nat.le_refl _), List.take_set_of_le (Nat.le_refl _), List.drop_set_of_lt (Nat.lt_succ_self _), List.drop_set_of_lt (Nat.lt_succ_self _)]
  refine O1.perm ?_
  simp only [List.flatten_cons, List.flatten_append, List.append_assoc]
  exact List.Perm.append_left _ (perm1 _ _ _)
theorem box_set (O : Own H (f d l :: boxC f ds ls :: R)) (hi : i < ls.length) : Own H (boxC f (ds.set i d) (ls.set i l) :: R) :=
  box_in ((box_out O.f1 (List.getElem?_eq_getElem hi)).drop.f1) (box_len O.f1) hi
theorem box_del (O : Own H (boxC f ds ls :: R)) (hi : i < ls.length) : Own H (boxC f (ds.eraseIdx i) (ls.eraseIdx i) :: R) :=
  (box_out O (List.getElem?_eq_getElem hi)).drop
theorem box_ins (O : Own H (f d l :: boxC f ds ls :: R)) (i : Nat) (hi : i ≤ ls.length) : Own H (boxC f (ds.take i ++ [d] ++ ds.drop i) (ls.take i ++ [l] ++ ls.drop i) :: R) := by
  have hl := box_len O.f1
  have O1 := box_flat O.f1
  refine box_of ?_ (by simp only [List.length_append, List.length_take, List.length_drop, List.length_singleton, hl])
  have e : List.zipWith f ds ls = List.zipWith f (ds.take i) (ls.take i) ++ List.zipWith f (ds.drop i) (ls.drop i) := by
    conv => lhs; rw [← List.take_append_drop i ds, ← List.take_append_drop i ls]
    rw [List.zipWith_append (by simp [List.length_take, hl])]
  rw [e] at O1
  rw [List.append_assoc, List.append_assoc, List.zipWith_append (by simp [List.length_take, hl]), List.singleton_append, List.singleton_append, List.zipWith_cons_cons]
  refine O1.perm ?_
  simp only [List.flatten_cons, List.flatten_append, List.append_assoc]
  exact List.Perm.append_left _ (perm1 _ _ _)
theorem box_app (O : Own H (f d l :: boxC f ds ls :: R)) : Own H (boxC f (ds ++ [d]) (ls ++ [l]) :: R) := by
  have h := box_ins O ls.length (Nat.le_refl _)
  have hl := box_len O.f1
  rw [← hl, List.take_length, List.drop_length, hl, List.take_length, List.drop_length, List.append_nil, List.append_nil] at h
  exact h
theorem box_nil (O : Own H R) : Own H (boxC f [] ([] : List α) :: R) := by
  have h := O.addU (P := ([] : List Addr).length = ([] : List α).length) rfl
  exact h
theorem box_at (O : Own H (boxC f ds ls :: R)) (h : ls[i]? = some l) : ds[i]? = some (ds.getD i 0) := by
  have hl := box_len O
  obtain ⟨hi, _⟩ := List.getElem?_eq_some_iff.mp h
  rw [List.getD_eq_getElem?_getD, List.getElem?_eq_getElem (by omega)]
  rfl
/-- a list of such objects -/
def rowC (f : Addr → α → List Ce) (pl : Addr) (ds : List Addr) (ls : List α) : List Ce := .m pl (.lst (ds.map V.ref)) :: boxC f ds ls
variable {pl : Addr} {H' : Hp}
theorem row_split (O : Own H (rowC f pl ds ls :: R)) : Own H ([.m pl (.lst (ds.map V.ref))] :: boxC f ds ls :: R) := Own.splitC O
theorem row_join (O : Own H ([.m pl (.lst (ds.map V.ref))] :: boxC f ds ls :: R)) : Own H (rowC f pl ds ls :: R) := O.joinC
theorem row_len (O : Own H (rowC f pl ds ls :: R)) : ds.length = ls.length := box_len (row_split O).f1
theorem row_lenV (O : Own H (rowC f pl ds ls :: R)) : (ds.map V.ref).length = ls.length := by rw [List.length_map, row_len O]
theorem row_at (O : Own H (rowC f pl ds ls :: R)) (h : ls[i]? = some l) : (ds.map V.ref)[i]? = some (.ref (ds.getD i 0)) := by
  rw [List.getElem?_map, box_at (row_split O).f1 h]
  rfl
theorem row_out (O : Own H (rowC f pl ds ls :: R)) (h : ls[i]? = some l) : Own H (f (ds.getD i 0) l :: [.m pl (.lst (ds.map V.ref))] :: boxC f (ds.eraseIdx i) (ls.eraseIdx i) :: R) := (box_out (row_split O).f1 h).f2.f1
/-- an object changed where it lies -/
theorem row_in (O : Own H (f (ds.getD i 0) l :: [.m pl (.lst (ds.map V.ref))] :: boxC f (ds.eraseIdx i) (ls.eraseIdx i) :: R)) (hl : ds.length = ls.length) (hi : i < ls.length) : Own H (rowC f pl ds (ls.set i l) :: R) := by
  have O1 := (box_in O.f2.f1 hl hi)
  have e : ds.set i (ds.getD i 0) = ds := by
    rw [List.getD_eq_getElem?_getD, List.getElem?_eq_getElem (by omega)]
    exact List.set_getElem_self _
  rw [e] at O1
  exact row_join O1.f1
theorem row_set (O : Own H (f d l :: rowC f pl ds ls :: R)) (hi : i < ls.length) (e : upd H pl (.lst ((ds.map V.ref).set i (.ref d))) = H') : Own H' (rowC f pl (ds.set i d) (ls.set i l) :: R) := by
  have O1 := box_set ((row_split O.f1).genS e).f2.f2.f1 hi
  rw [show (ds.map V.ref).set i (V.ref d) = (ds.set i d).map V.ref from List.map_set.symm] at O1
  exact row_join O1.f1
/-- another object there; the one before still stands -/
theorem row_swap {l0 : α} (O : Own H (f d l :: rowC f pl ds ls :: R)) (h : ls[i]? = some l0) (e : upd H pl (.lst ((ds.map V.ref).set i (.ref d))) = H') : Own H' (rowC f pl (ds.set i d) (ls.set i l) :: f (ds.getD i 0) l0 :: R) := by
  have hl := row_len O.f1
  have hi := (List.getElem?_eq_some_iff.mp h).1
  have O1 := ((row_split O.f1).genS e).f1
  have O2 := (box_in (box_out O1 h).f3.f2.f1 hl hi).f2
  rw [show (ds.map V.ref).set i (V.ref d) = (ds.set i d).map V.ref from List.map_set.symm] at O2
  exact row_join O2
theorem row_del (O : Own H (rowC f pl ds ls :: R)) (hi : i < ls.length) (e : upd H pl (.lst ((ds.map V.ref).eraseIdx i)) = H') : Own H' (rowC f pl (ds.eraseIdx i) (ls.eraseIdx i) :: R) := by
  have O1 := box_del ((row_split O).genS e).f1 hi
  rw [show (ds.map V.ref).eraseIdx i = (ds.eraseIdx i).map V.ref by rw [List.eraseIdx_eq_take_drop_succ, List.eraseIdx_eq_take_drop_succ, List.map_append, List.map_take, List.map_drop]] at O1
  exact row_join O1.f1
theorem row_ins (O : Own H (f d l :: rowC f pl ds ls :: R)) (i : Nat) (hi : i ≤ ls.length) (e : upd H pl (.lst ((ds.map V.ref).take i ++ [.ref d] ++ (ds.map V.ref).drop i)) = H') : Own H' (rowC f pl (ds.take i ++ [d] ++ ds.drop i) (ls.take i ++ [l] ++ ls.drop i) :: R) := by
  have O1 := box_ins ((row_split O.f1).genS e).f2.f2.f1 i hi
  rw [show (ds.map V.ref).take i ++ [V.ref d] ++ (ds.map V.ref).drop i = (ds.take i ++ [d] ++ ds.drop i).map V.ref by rw [List.map_append, List.map_append, List.map_take, List.map_drop]; rfl] at O1
  exact row_join O1.f1
theorem row_app (O : Own H (f d l :: rowC f pl ds ls :: R)) (e : upd H pl (.lst (ds.map V.ref ++ [.ref d])) = H') : Own H' (rowC f pl (ds ++ [d]) (ls ++ [l]) :: R) := by
  have O1 := box_app ((row_split O.f1).genS e).f2.f2.f1
  rw [show ds.map V.ref ++ [V.ref d] = (ds ++ [d]).map V.ref by rw [List.map_append]; rfl] at O1
  exact row_join O1.f1
theorem row_nil (O : Own H ([.m pl (.lst [])] :: R)) : Own H (rowC f pl [] ([] : List α) :: R) := row_join (box_nil O).f1
end
end SW
namespace SW
/-! ### keys in rising leaves -/
def hd (l : List Int) : Int := l.headD 0
def lvAt (lv : List (List Int)) (k : Int) : Nat := (lv.countP fun l => decide (hd l ≤ k)) - 1
def insS (k : Int) : List Int → List Int
  | [] => [k]
  | x :: l => if k ≤ x then k :: x :: l else x :: insS k l
def lvAdd (lv : List (List Int)) (k : Int) : List (List Int) :=
  if lv = [] then [[k]] else
    let i := lvAt lv k
    let leaf := insS k (lv.getD i [])
    if 8 < leaf.length then (lv.set i (leaf.take 4)).take (i + 1) ++ [leaf.drop 4] ++ (lv.set i (leaf.take 4)).drop (i + 1) else lv.set i leaf
def lvJoin (lv : List (List Int)) (i : Int) : List (List Int) :=
  if 0 ≤ i ∧ i < (lv.length : Int) - 1 then
    let joined := lv.getD i.toNat [] ++ lv.getD (i.toNat + 1) []
    if joined.length < 5 then (lv.set i.toNat joined).eraseIdx (i.toNat + 1) else lv
  else lv
def lvDel (lv : List (List Int)) (k : Int) : List (List Int) :=
  let i := lvAt lv k
  let leaf := (lv.getD i []).filter fun x => decide (x ≠ k)
  if leaf = [] then lv.eraseIdx i else lvJoin (lvJoin (lv.set i leaf) i) ((i : Int) - 1)
structure LvOk (lv : List (List Int)) : Prop where
  ne : ∀ l ∈ lv, l ≠ []
  srt : lv.flatten.Pairwise (· < ·)
  le8 : ∀ l ∈ lv, l.length ≤ 8
theorem count_mono {α : Type} (p : α → Bool) : ∀ (l : List α), (∀ i j (hi : i < l.length) (hj : j < l.length), i < j → p l[j] = true → p l[i] = true) → ∀ i (hi : i < l.length), (p l[i] = true ↔ i < l.countP p)
  | [], _, _, hi => by cases hi
  | a :: l, h, i, hi => by
    have ih := count_mono p l (fun i j hi hj hij => h (i + 1) (j + 1) (Nat.succ_lt_succ hi) (Nat.succ_lt_succ hj) (Nat.succ_lt_succ hij))
    have h0 (j : Nat) (hj : j < l.length) : p l[j] = true → p a = true := h 0 (j + 1) (Nat.zero_lt_succ _) (Nat.succ_lt_succ hj) (Nat.zero_lt_succ _)
    rw [List.countP_cons]
    cases ha : p a with
    | true =>
      rw [if_pos rfl]
      cases i with
      | zero => exact ⟨fun _ => Nat.zero_lt_succ _, fun _ => ha⟩
      | succ i =>
        have := ih i (Nat.lt_of_succ_lt_succ hi)
        rw [List.getElem_cons_succ]
        exact this.trans (by omega)
    | false =>
      have hn : l.countP p = 0 := List.countP_eq_zero.mpr fun x hx hpx => by
        obtain ⟨j, hj, rfl⟩ := List.mem_iff_getElem.mp hx
        have := h0 j hj hpx
        rw [ha] at this
        cases this
      rw [hn]
      constructor
      · intro hpi
        cases i with
        | zero =>
          rw [List.getElem_cons_zero, ha] at hpi
          cases hpi
        | succ i =>
          have := h0 i (Nat.lt_of_succ_lt_succ hi) hpi
          rw [ha] at this
          cases this
      · intro h
        simp at h
theorem hd_mem {l : List Int} (h : l ≠ []) : hd l ∈ l := by
  cases l with
  | nil => exact absurd rfl h
  | cons a l => exact List.mem_cons_self
theorem hd_le {l : List Int} (s : l.Pairwise (· < ·)) {x : Int} (h : x ∈ l) : hd l ≤ x := by
  cases l with
  | nil => cases h
  | cons a l =>
    rcases List.mem_cons.mp h with e | h
    · exact Int.le_of_eq e.symm
    · exact Int.le_of_lt ((List.pairwise_cons.mp s).1 x h)
variable {lv : List (List Int)} {k : Int}
theorem LvOk.leaf (h : LvOk lv) {l : List Int} (hl : l ∈ lv) : l.Pairwise (· < ·) := (List.pairwise_flatten.mp h.srt).1 l hl
theorem LvOk.lt (h : LvOk lv) {i j : Nat} (hi : i < lv.length) (hj : j < lv.length) (hij : i < j) : ∀ x ∈ lv[i], ∀ y ∈ lv[j], x < y :=
  List.pairwise_iff_getElem.mp (List.pairwise_flatten.mp h.srt).2 i j hi hj hij
theorem LvOk.hds (h : LvOk lv) {i j : Nat} (hi : i < lv.length) (hj : j < lv.length) (hij : i < j) : hd lv[i] < hd lv[j] :=
  h.lt hi hj hij _ (hd_mem (h.ne _ (List.getElem_mem hi))) _ (hd_mem (h.ne _ (List.getElem_mem hj)))
theorem LvOk.pre (h : LvOk lv) (k : Int) (i : Nat) (hi : i < lv.length) : (hd lv[i] ≤ k ↔ i < lv.countP fun l => decide (hd l ≤ k)) := by
  have := count_mono (fun l => decide (hd l ≤ k)) lv (fun i j hi hj hij hp => by
    have h1 := h.hds hi hj hij
    rw [decide_eq_true_eq] at hp ⊢
    omega) i hi
  rw [← this, decide_eq_true_eq]
/-- what the search by halves ends with -/
theorem lvAt_of (h : LvOk lv) {lo hi : Nat} (hlen : hi ≤ lv.length) (h1 : hi - lo ≤ 1) (h2 : lo < hi ∨ lo = 0 ∧ hi = 0) (ha : lo = 0 ∨ ∃ l, lv[lo]? = some l ∧ hd l ≤ k) (hb : hi = lv.length ∨ ∃ l, lv[hi]? = some l ∧ k < hd l) : lo = lvAt lv k := by
  have hc : (lv.countP fun l => decide (hd l ≤ k)) ≤ hi := by
    rcases hb with e | ⟨l, e, hk⟩
    · rw [e]
      exact List.countP_le_length
    · obtain ⟨hl, rfl⟩ := List.getElem?_eq_some_iff.mp e
      have := h.pre k hi hl
      omega
  unfold lvAt
  rcases ha with e | ⟨l, e, hk⟩
  · omega
  · obtain ⟨hl, rfl⟩ := List.getElem?_eq_some_iff.mp e
    have := h.pre k lo hl
    omega
theorem lvAt_lt (hn : lv ≠ []) (k : Int) : lvAt lv k < lv.length := by
  have h1 : (lv.countP fun l => decide (hd l ≤ k)) ≤ lv.length := List.countP_le_length
  have h2 : 0 < lv.length := List.length_pos_iff.mpr hn
  unfold lvAt
  omega
theorem at_below (h : LvOk lv) {j : Nat} (hj : j < lvAt lv k) : ∃ hj : j < lv.length, ∀ x ∈ lv[j], x < k := by
  have h1 : (lv.countP fun l => decide (hd l ≤ k)) ≤ lv.length := List.countP_le_length
  unfold lvAt at hj
  have hl : j + 1 < lv.length := by omega
  refine ⟨by omega, fun x hx => ?_⟩
  have h2 := (h.pre k (j + 1) hl).mpr (by omega)
  have h3 := h.lt (by omega) hl (Nat.lt_succ_self j) x hx _ (hd_mem (h.ne _ (List.getElem_mem hl)))
  omega
theorem at_above (h : LvOk lv) {j : Nat} (hj : lvAt lv k < j) (hl : j < lv.length) : ∀ x ∈ lv[j], k < x := by
  intro x hx
  have h2 : ¬ hd lv[j] ≤ k := fun c => by
    have := (h.pre k j hl).mp c
    unfold lvAt at hj
    omega
  have h3 := hd_le (h.leaf (List.getElem_mem hl)) hx
  omega
theorem mem_at (h : LvOk lv) (hn : lv ≠ []) : k ∈ lv.flatten ↔ k ∈ lv.getD (lvAt lv k) [] := by
  have ha := lvAt_lt hn k
  have eg : lv.getD (lvAt lv k) [] = lv[lvAt lv k] := by rw [List.getD_eq_getElem?_getD, List.getElem?_eq_getElem ha]; rfl
  rw [eg]
  constructor
  · intro hk
    obtain ⟨l, hl, hkl⟩ := List.mem_flatten.mp hk
    obtain ⟨j, hj, rfl⟩ := List.mem_iff_getElem.mp hl
    rcases Nat.lt_trichotomy j (lvAt lv k) with c | c | c
    · obtain ⟨_, hb⟩ := at_below h c
      exact absurd (hb k hkl) (by omega)
    · subst c
      exact hkl
    · exact absurd (at_above h c hj k hkl) (by omega)
  · intro hk
    exact List.mem_flatten.mpr ⟨_, List.getElem_mem ha, hk⟩
/-! ### into its place -/
theorem insS_perm (k : Int) : ∀ l, (insS k l).Perm (l ++ [k])
  | [] => List.Perm.refl _
  | x :: l => by
    unfold insS
    split
    · exact (List.perm_append_singleton k (x :: l)).symm
    · exact (insS_perm k l).cons x
theorem mem_insS {k x : Int} {l : List Int} : x ∈ insS k l ↔ x = k ∨ x ∈ l := by
  rw [(insS_perm k l).mem_iff, List.mem_append, List.mem_singleton]
  exact Or.comm
theorem len_insS (k : Int) (l : List Int) : (insS k l).length = l.length + 1 := by
  rw [(insS_perm k l).length_eq, List.length_append]
  rfl
theorem insS_srt {k : Int} : ∀ {l : List Int}, l.Pairwise (· < ·) → k ∉ l → (insS k l).Pairwise (· < ·)
  | [], _, _ => List.pairwise_singleton _ _
  | x :: l, s, hk => by
    have h1 := List.pairwise_cons.mp s
    have h2 : k ≠ x := fun e => hk (e ▸ List.mem_cons_self)
    have h3 : k ∉ l := fun e => hk (List.mem_cons_of_mem _ e)
    unfold insS
    split
    · rename_i c
      refine List.pairwise_cons.mpr ⟨fun y hy => ?_, s⟩
      rcases List.mem_cons.mp hy with e | hy
      · omega
      · have := h1.1 y hy
        omega
    · rename_i c
      refine List.pairwise_cons.mpr ⟨fun y hy => ?_, insS_srt h1.2 h3⟩
      rcases mem_insS.mp hy with e | hy
      · omega
      · exact h1.1 y hy
/-- the only rising order -/
theorem insS_of {ns l : List Int} (s : l.Pairwise (· < ·)) (hk : k ∉ l) (hp : ns.Perm (l ++ [k])) (hs : ns.Pairwise (· ≤ ·)) : ns = insS k l :=
  List.Perm.eq_of_pairwise (le := (· ≤ ·)) (fun _ _ _ _ h1 h2 => Int.le_antisymm h1 h2) hs ((insS_srt s hk).imp fun h => Int.le_of_lt h) (hp.trans (insS_perm k l).symm)
theorem insS_mid {A L B : List Int} (ha : ∀ x ∈ A, x < k) (hb : ∀ x ∈ B, k < x) : insS k (A ++ (L ++ B)) = A ++ (insS k L ++ B) := by
  induction A with
  | nil =>
    rw [List.nil_append, List.nil_append]
    induction L with
    | nil =>
      cases B with
      | nil => rfl
      | cons b B =>
        show insS k (b :: B) = k :: b :: B
        unfold insS
        rw [if_pos (Int.le_of_lt (hb b List.mem_cons_self))]
    | cons x L ih =>
      show insS k (x :: (L ++ B)) = insS k (x :: L) ++ B
      unfold insS
      split
      · rfl
      · rw [ih]
        rfl
  | cons a A ih =>
    show insS k (a :: (A ++ (L ++ B))) = a :: (A ++ (insS k L ++ B))
    rw [insS, if_neg (by have := ha a List.mem_cons_self; omega), ih fun x hx => ha x (List.mem_cons_of_mem _ hx)]
theorem lv_parts {i : Nat} (hi : i < lv.length) : lv = lv.take i ++ lv.getD i [] :: lv.drop (i + 1) := by
  have e : lv.getD i [] = lv[i] := by rw [List.getD_eq_getElem?_getD, List.getElem?_eq_getElem hi]; rfl
  rw [e]
  simp
theorem set_parts {i : Nat} (hi : i < lv.length) (l : List Int) : lv.set i l = lv.take i ++ l :: lv.drop (i + 1) := by
  rw [List.set_eq_take_append_cons_drop, if_pos hi]
theorem below_flat (h : LvOk lv) : ∀ x ∈ (lv.take (lvAt lv k)).flatten, x < k := by
  intro x hx
  obtain ⟨l, hl, hx⟩ := List.mem_flatten.mp hx
  obtain ⟨j, hj, rfl⟩ := List.mem_iff_getElem.mp hl
  rw [List.length_take] at hj
  rw [List.getElem_take] at hx
  obtain ⟨_, hb⟩ := at_below (k := k) h (by omega : j < lvAt lv k)
  exact hb x hx
theorem above_flat (h : LvOk lv) : ∀ x ∈ (lv.drop (lvAt lv k + 1)).flatten, k < x := by
  intro x hx
  obtain ⟨l, hl, hx⟩ := List.mem_flatten.mp hx
  obtain ⟨j, hj, rfl⟩ := List.mem_iff_getElem.mp hl
  rw [List.length_drop] at hj
  rw [List.getElem_drop] at hx
  exact at_above h (by omega) (by omega) x hx
theorem flat_ins (h : LvOk lv) (hn : lv ≠ []) : insS k lv.flatten = (lv.set (lvAt lv k) (insS k (lv.getD (lvAt lv k) []))).flatten := by
  have hi := lvAt_lt hn k
  rw [set_parts hi]
  conv => lhs; rw [lv_parts hi]
  rw [List.flatten_append, List.flatten_append, List.flatten_cons, List.flatten_cons]
  exact insS_mid (below_flat h) (above_flat h)
theorem lvAdd_flat (h : LvOk lv) : (lvAdd lv k).flatten = insS k lv.flatten := by
  unfold lvAdd
  by_cases hn : lv = []
  · rw [if_pos hn, hn]
    rfl
  · rw [if_neg hn, flat_ins h hn]
    dsimp only
    have hi := lvAt_lt hn k
    generalize insS k (lv.getD (lvAt lv k) []) = leaf
    split
    · rw [set_parts hi, set_parts hi]
      have hp : (lv.take (lvAt lv k)).length = lvAt lv k := by rw [List.length_take]; omega
      rw [show lvAt lv k + 1 = (lv.take (lvAt lv k)).length + 1 by rw [hp], List.take_append, List.drop_append]
      simp only [hp, List.flatten_append, List.flatten_cons, List.flatten_nil, List.append_nil, List.append_assoc, List.take_take, Nat.add_sub_cancel_left, List.take_succ_cons, List.take_zero, List.drop_succ_cons, List.drop_zero]
      rw [List.drop_eq_nil_of_le (as := lv.take (lvAt lv k)) (by rw [List.length_take]; omega), show min (lvAt lv k + 1) (lvAt lv k) = lvAt lv k by omega]
      simp only [List.flatten_nil, List.nil_append]
      rw [← List.append_assoc (leaf.take 4), List.take_append_drop]
    · rfl
theorem getD_mem {i : Nat} (hi : i < lv.length) : lv.getD i [] ∈ lv := by
  rw [List.getD_eq_getElem?_getD, List.getElem?_eq_getElem hi]
  exact List.getElem_mem hi
theorem lvAdd_ok (h : LvOk lv) (hk : k ∉ lv.flatten) : LvOk (lvAdd lv k) := by
  have hs : (lvAdd lv k).flatten.Pairwise (· < ·) := by
    rw [lvAdd_flat h]
    exact insS_srt h.srt hk
  have key : ∀ l ∈ lvAdd lv k, l ≠ [] ∧ l.length ≤ 8 := by
    unfold lvAdd
    by_cases hn : lv = []
    · rw [if_pos hn]
      intro l hl
      rw [List.mem_singleton.mp hl]
      exact ⟨fun e => (by cases e), Nat.le_of_ble_eq_true rfl⟩
    · rw [if_neg hn]
      have hi := lvAt_lt hn k
      have h8 := h.le8 _ (getD_mem hi)
      have hlen := len_insS k (lv.getD (lvAt lv k) [])
      dsimp only
      generalize insS k (lv.getD (lvAt lv k) []) = leaf at *
      split
      · rename_i c
        intro l hl
        have : l = leaf.take 4 ∨ l = leaf.drop 4 ∨ l ∈ lv := by
          rcases List.mem_append.mp hl with hl | hl
          · rcases List.mem_append.mp hl with hl | hl
            · rcases List.mem_or_eq_of_mem_set (List.mem_of_mem_take hl) with e | e
              · exact .inr (.inr e)
              · exact .inl e
            · exact .inr (.inl (List.mem_singleton.mp hl))
          · rcases List.mem_or_eq_of_mem_set (List.mem_of_mem_drop hl) with e | e
            · exact .inr (.inr e)
            · exact .inl e
        rcases this with e | e | e
        · have : l.length = 4 := by rw [e, List.length_take]; omega
          exact ⟨fun e => (by rw [e] at this; cases this), by omega⟩
        · have : l.length = leaf.length - 4 := by rw [e, List.length_drop]
          exact ⟨fun e => (by rw [e, List.length_nil] at this; omega), by omega⟩
        · exact ⟨h.ne l e, h.le8 l e⟩
      · intro l hl
        rcases List.mem_or_eq_of_mem_set hl with e | e
        · exact ⟨h.ne l e, h.le8 l e⟩
        · have : l.length = leaf.length := by rw [e]
          exact ⟨fun e => (by rw [e, List.length_nil] at this; omega), by omega⟩
  exact ⟨fun l hl => (key l hl).1, hs, fun l hl => (key l hl).2⟩
/-! ### out of its place -/
theorem lvJoin_flat (lv : List (List Int)) (i : Int) : (lvJoin lv i).flatten = lv.flatten := by
  unfold lvJoin
  split
  · rename_i c
    dsimp only
    split
    · have h1 : i.toNat < lv.length := by omega
      have h2 : i.toNat + 1 < lv.length := by omega
      generalize i.toNat = j at *
      have e : lv.drop (j + 1) = lv.getD (j + 1) [] :: lv.drop (j + 2) := by
        rw [List.getD_eq_getElem?_getD, List.getElem?_eq_getElem h2]
        exact List.drop_eq_getElem_cons h2
      have hp : (lv.take j).length = j := by rw [List.length_take]; omega
      rw [set_parts h1, e, List.eraseIdx_append_of_length_le (by omega), hp, show j + 1 - j = 1 by omega]
      conv => rhs; rw [lv_parts h1, e]
      simp only [List.eraseIdx_cons_succ, List.eraseIdx_cons_zero, List.flatten_append, List.flatten_cons, List.append_assoc]
    · rfl
  · rfl
theorem lvJoin_sub (lv : List (List Int)) (i : Int) : ∀ l ∈ lvJoin lv i, l ∈ lv ∨ l.length < 5 ∧ ∃ a b, a ∈ lv ∧ l = a ++ b := by
  unfold lvJoin
  split
  · rename_i c
    dsimp only
    split
    · rename_i c2
      intro l hl
      rcases List.mem_or_eq_of_mem_set (List.mem_of_mem_eraseIdx hl) with e | e
      · exact .inl e
      · exact .inr ⟨by rw [e]; exact c2, _, _, getD_mem (by omega), e⟩
    · intro l hl
      exact .inl hl
  · intro l hl
    exact .inl hl
theorem lvJoin_len (lv : List (List Int)) (i : Int) : (lvJoin lv i).length ≤ lv.length := by
  unfold lvJoin
  split
  · dsimp only
    split
    · rw [List.length_eraseIdx, List.length_set]
      split <;> omega
    · exact Nat.le_refl _
  · exact Nat.le_refl _
theorem lvJoin_le8 (h : ∀ l ∈ lv, l.length ≤ 8) (i : Int) : ∀ l ∈ lvJoin lv i, l.length ≤ 8 := by
  intro l hl
  rcases lvJoin_sub lv i l hl with e | ⟨e, _⟩
  · exact h l e
  · omega
theorem lvJoin_ok (h : LvOk lv) (i : Int) : LvOk (lvJoin lv i) := by
  refine ⟨fun l hl => ?_, by rw [lvJoin_flat]; exact h.srt, fun l hl => ?_⟩
  · rcases lvJoin_sub lv i l hl with e | ⟨_, a, b, ha, e⟩
    · exact h.ne l e
    · intro en
      rw [en] at e
      exact h.ne a ha (List.append_eq_nil_iff.mp e.symm).1
  · rcases lvJoin_sub lv i l hl with e | ⟨e, _⟩
    · exact h.le8 l e
    · omega
theorem flat_del (h : LvOk lv) (hn : lv ≠ []) : (lv.flatten.filter fun x => decide (x ≠ k)) = (lv.set (lvAt lv k) ((lv.getD (lvAt lv k) []).filter fun x => decide (x ≠ k))).flatten := by
  have hi := lvAt_lt hn k
  rw [set_parts hi]
  conv => lhs; rw [lv_parts hi]
  rw [List.flatten_append, List.flatten_append, List.flatten_cons, List.flatten_cons, List.filter_append, List.filter_append]
  congr 1
  · exact List.filter_eq_self.mpr fun x hx => decide_eq_true (by have := below_flat h x hx; omega)
  · congr 1
    exact List.filter_eq_self.mpr fun x hx => decide_eq_true (by have := above_flat h x hx; omega)
theorem erase_flat {i : Nat} (hi : i < lv.length) : (lv.eraseIdx i).flatten = (lv.set i []).flatten := by
  rw [set_parts hi, List.eraseIdx_eq_take_drop_succ]
  simp
theorem lvDel_flat (h : LvOk lv) (hk : k ∈ lv.flatten) : (lvDel lv k).flatten = lv.flatten.filter fun x => decide (x ≠ k) := by
  have hn : lv ≠ [] := fun e => (by rw [e] at hk; cases hk)
  have hi := lvAt_lt hn k
  rw [flat_del h hn]
  unfold lvDel
  dsimp only
  split
  · rename_i c
    rw [c, erase_flat hi]
  · rw [lvJoin_flat, lvJoin_flat]
theorem lvDel_ok (h : LvOk lv) (hk : k ∈ lv.flatten) : LvOk (lvDel lv k) := by
  have hn : lv ≠ [] := fun e => (by rw [e] at hk; cases hk)
  have hi := lvAt_lt hn k
  have hfl := flat_del (k := k) h hn
  unfold lvDel
  dsimp only
  split
  · rename_i c
    rw [c] at hfl
    refine ⟨fun l hl => h.ne l (List.mem_of_mem_eraseIdx hl), ?_, fun l hl => h.le8 l (List.mem_of_mem_eraseIdx hl)⟩
    rw [erase_flat hi, ← hfl]
    exact h.srt.filter _
  · rename_i c
    refine lvJoin_ok (lvJoin_ok ⟨fun l hl => ?_, by rw [← hfl]; exact h.srt.filter _, fun l hl => ?_⟩ _) _
    · rcases List.mem_or_eq_of_mem_set hl with e | e
      · exact h.ne l e
      · rw [e]
        exact c
    · rcases List.mem_or_eq_of_mem_set hl with e | e
      · exact h.le8 l e
      · rw [e]
        exact Nat.le_trans (List.length_filter_le _ _) (h.le8 _ (getD_mem hi))
theorem lv_len (h : LvOk lv) : lv.length ≤ lv.flatten.length := by
  have h1 := h.ne
  clear h
  induction lv with
  | nil => exact Nat.le_refl _
  | cons l lv ih =>
    have h2 := ih fun l hl => h1 l (List.mem_cons_of_mem _ hl)
    have h3 : 0 < l.length := List.length_pos_iff.mpr (h1 l List.mem_cons_self)
    rw [List.flatten_cons, List.length_append, List.length_cons]
    omega
theorem lvNil_ok : LvOk [] := ⟨fun _ h => (by cases h), List.Pairwise.nil, fun _ h => (by cases h)⟩
end SW
namespace SW
open PySem PySem.Spec PyProof.Rows L2
/-- values with a plain type, that == tells apart -/
class Da (α : Type) [DecidableEq α] where
  toD : α → PyData
  lay : ∀ a, (toD a).canLay0 = true
  eqv : ∀ a b, PyData.eqv (toD a) (toD b) = decide (a = b)
  dep : Nat
  dep_le : ∀ a, (toD a).depth ≤ dep
theorem beq_dec {α : Type} [BEq α] [LawfulBEq α] [DecidableEq α] (a b : α) : (a == b) = decide (a = b) := by
  rw [Bool.eq_iff_iff, beq_iff_eq, decide_eq_true_eq]
instance : Da Int where
  toD := .int
  lay _ := by simp only [PyData.canLay0]
  eqv a b := by simp only [PyData.eqv]; exact beq_dec a b
  dep := 0
  dep_le _ := Nat.le_refl _
instance : Da (Option Int) where
  toD
    | none => .none
    | some i => .int i
  lay a := by cases a <;> simp only [PyData.canLay0]
  eqv a b := by
    cases a <;> cases b <;> simp only [PyData.eqv]
    · simp
    · simp
    · simp
    · rw [beq_dec]
      simp
  dep := 0
  dep_le a := by cases a <;> exact Nat.le_refl _
section
variable {α β : Type} [DecidableEq α] [Da α] [DecidableEq β] [Da β]
theorem layAll_map : ∀ xs : List α, PyData.canLayAll0 (xs.map Da.toD) = true
  | [] => by rw [List.map_nil, PyData.canLayAll0]
  | x :: xs => by
    rw [List.map_cons, PyData.canLayAll0, Da.lay x, layAll_map xs]
    rfl
theorem depAll_map : ∀ xs : List α, PyData.depthAll (xs.map Da.toD) ≤ Da.dep α
  | [] => Nat.zero_le _
  | x :: xs => by
    rw [List.map_cons, PyData.depthAll]
    exact Nat.max_le.mpr ⟨Da.dep_le x, depAll_map xs⟩
theorem eqAll_map : ∀ xs ys : List α, PyData.eqvAll (xs.map Da.toD) (ys.map Da.toD) = decide (xs = ys)
  | [], [] => by simp only [List.map_nil, PyData.eqvAll, decide_true]
  | [], _ :: _ => by simp [PyData.eqvAll]
  | _ :: _, [] => by simp [PyData.eqvAll]
  | x :: xs, y :: ys => by
    rw [List.map_cons, List.map_cons, PyData.eqvAll, Da.eqv x y, eqAll_map xs ys, ← Bool.decide_and]
    exact decide_eq_decide.mpr (by rw [List.cons.injEq])
instance : Da (List α) where
  toD xs := .list (xs.map Da.toD)
  lay xs := by simp only [PyData.canLay0]; exact layAll_map xs
  eqv xs ys := by simp only [PyData.eqv]; exact eqAll_map xs ys
  dep := Da.dep α + 1
  dep_le xs := by simp only [PyData.depth]; exact Nat.succ_le_succ (depAll_map xs)
instance : Da (α × β) where
  toD p := .tuple [Da.toD p.1, Da.toD p.2]
  lay p := by simp only [PyData.canLay0, PyData.canLayAll0, Da.lay, Bool.and_self]
  eqv p q := by
    simp only [PyData.eqv, PyData.eqvAll]
    rw [Da.eqv, Da.eqv, Bool.and_true, ← Bool.decide_and]
    exact decide_eq_decide.mpr ⟨fun e => Prod.ext e.1 e.2, fun e => by rw [e]; exact ⟨rfl, rfl⟩⟩
  dep := max (Da.dep α) (Da.dep β) + 1
  dep_le p := by
    simp only [PyData.depth, PyData.depthAll]
    refine Nat.succ_le_succ (Nat.max_le.mpr ⟨Nat.le_trans (Da.dep_le p.1) (Nat.le_max_left _ _), Nat.max_le.mpr ⟨Nat.le_trans (Da.dep_le p.2) (Nat.le_max_right _ _), Nat.zero_le _⟩⟩)
theorem da_shaped (a : α) (h : Da.dep α ≤ 64) : SeqAt.shaped (Da.toD a) = true :=
  Bool.and_eq_true_iff.mpr ⟨Da.lay a, decide_eq_true (Nat.le_trans (Da.dep_le a) h)⟩
/-- v is a -/
def DV (K : PySem.W.Frag) (H : Hp) (v : V) (a : α) : Prop := Dp K H v (Da.toD a)
def DA (K : PySem.W.Frag) (H : Hp) (vs : List V) (as : List α) : Prop := DpAll K H vs (as.map Da.toD)
variable {K : PySem.W.Frag} {H : Hp} {v v' : V} {vs ws : List V} {a : α} {as bs : List α} {p : Addr}
theorem DA.nil : DA K H [] ([] : List α) := DpAll.nil
theorem DA.cons (h : DV K H v a) (t : DA K H vs as) : DA K H (v :: vs) (a :: as) := DpAll.cons h t
theorem DA.one (h : DV K H v a) : DA K H [v] [a] := .cons h .nil
theorem DA.both (h : DA K H (v :: vs) (a :: as)) : DV K H v a ∧ DA K H vs as := by
  cases h with
  | cons h t => exact ⟨h, t⟩
theorem DA.length : ∀ {vs : List V} {as : List α}, DA K H vs as → vs.length = as.length
  | [], [], _ => rfl
  | _ :: _, [], h => nomatch h
  | [], _ :: _, h => nomatch h
  | _ :: vs, _ :: as, h => congrArg (· + 1) (DA.length (vs := vs) (as := as) h.both.2)
theorem DA.app : ∀ {vs : List V} {as : List α}, DA K H vs as → DA K H ws bs → DA K H (vs ++ ws) (as ++ bs)
  | [], [], _, h => h
  | _ :: _, [], h, _ => nomatch h
  | [], _ :: _, h, _ => nomatch h
  | _ :: _, _ :: _, h, u => .cons h.both.1 (DA.app h.both.2 u)
theorem DA.get : ∀ {vs : List V} {as : List α}, DA K H vs as → ∀ {i : Nat} {a : α}, as[i]? = some a → ∃ v, vs[i]? = some v ∧ DV K H v a
  | [], [], _, i, _, h => by cases h
  | _ :: _, [], h, _, _, _ => nomatch h
  | [], _ :: _, h, _, _, _ => nomatch h
  | v :: vs, b :: bs, h, i, a, e => by
    cases i with
    | zero =>
      cases e
      exact ⟨v, rfl, h.both.1⟩
    | succ i => exact DA.get h.both.2 e
theorem DA.list (h : DA K H vs as) (e : H p = some (.lst vs)) : DV K H (.ref p) as := Dp.lst (SqL.of e) h
theorem DV.int (i : Int) : DV K H (.int i) i := Dp.int i
theorem DV.pair {b : β} {x y : V} (h : DV K H x a) (h' : DV K H y b) (e : H p = some (.tup [x, y])) : DV K H (.ref p) (a, b) := Dp.tup (SqT.of e) (.cons h (.cons h' .nil))
theorem DA.ints : ∀ (ns : List Int), DA K H (ns.map V.int) ns
  | [] => .nil
  | n :: ns => .cons (DV.int n) (DA.ints ns)
def oV : Option Int → V
  | none => .non
  | some i => .int i
theorem DV.opt (o : Option Int) : DV K H (oV o) o := by
  cases o with
  | none => exact Dp.non
  | some i => exact Dp.int i
/-- of two values == -/
theorem eqD_of {y : V} {b : α} {Q : VK} (h : DV K H v a) (h' : DV K H y b) (hd : Da.dep α ≤ 64) (q : Q (.bl (decide (a = b))) H) : rEqD K v y H Q :=
  ⟨_, _, h, h', da_shaped a hd, da_shaped b hd, by rw [Da.eqv]; exact q⟩
theorem neD_of {y : V} {b : α} {Q : VK} (h : DV K H v a) (h' : DV K H y b) (hd : Da.dep α ≤ 64) (q : Q (.bl (!decide (a = b))) H) : rNeD K v y H Q :=
  ⟨_, _, h, h', da_shaped a hd, da_shaped b hd, by rw [Da.eqv]; exact q⟩
/-- what a row of objects is -/
theorem box_da {f : Addr → β → List Ce} {g : β → α} {R : List (List Ce)} (hf : ∀ d l R, Own H (f d l :: R) → DV K H (.ref d) (g l)) : ∀ {ds : List Addr} {ls : List β}, Own H (boxC f ds ls :: R) → DA K H (ds.map V.ref) (ls.map g)
  | [], [], _ => .nil
  | _ :: _, [], O => by cases box_len O
  | [], _ :: _, O => by cases box_len O
  | d :: ds, l :: ls, O => by
    have O1 := box_out (i := 0) O rfl
    exact .cons (hf d l _ O1) (box_da hf O1.drop)
end
/-- while, whose test only reads -/
theorem whileB {c : TT} {tb : TS} {D : Ends} {σ : L2.St} {H : Hp} (Pv : L2.St → Hp → Prop) (μ : L2.St → Hp → Nat) (h0 : Pv σ H)
    (hs : ∀ σ H, Pv σ H → ∃ b : Bool, (∀ Q : Bool → Hp → Prop, Q b H → c σ H Q) ∧ if b = true then tb { D with nx := fun σ' H' => Pv σ' H' ∧ μ σ' H' < μ σ H, ct := fun σ' H' => Pv σ' H' ∧ μ σ' H' < μ σ H, bk := D.nx } σ H else D.nx σ H) : tWhile c tb D σ H := by
  refine ⟨fun m σ H => m = μ σ H ∧ Pv σ H, ⟨_, rfl, h0⟩, ?_⟩
  rintro m σ H ⟨rfl, p⟩
  obtain ⟨b, hc, h⟩ := hs σ H p
  refine hc _ ?_
  cases b with
  | true => exact ⟨_, fun σ' H' ⟨p', l⟩ => ⟨_, l, rfl, p'⟩, h⟩
  | false => exact h
end SW
namespace SW
open PySem PySem.Spec PyProof.Rows L2
structure LvA where
  p : Addr
  dx : Addr
  pl : Addr
  ds : List Addr
def leafC (d : Addr) (l : List Int) : List Ce := [.m d (.lst (l.map V.int))]
def leavesC (K : PySem.W.Frag) (A : LvA) (lv : List (List Int)) : List Ce :=
  .m A.p (.ins (He.ga K "Leaves") A.dx (flLeaves (.ref A.pl))) :: rowC leafC A.pl A.ds lv
section
variable {K : PySem.W.Frag} {H : Hp} {R : List (List Ce)} {A : LvA} {lv : List (List Int)} {i : Nat} {l : List Int}
theorem leaves_split (O : Own H (leavesC K A lv :: R)) : Own H ([.m A.p (.ins (He.ga K "Leaves") A.dx (flLeaves (.ref A.pl)))] :: rowC leafC A.pl A.ds lv :: R) := Own.splitC O
theorem leaves_join (O : Own H ([.m A.p (.ins (He.ga K "Leaves") A.dx (flLeaves (.ref A.pl)))] :: rowC leafC A.pl A.ds lv :: R)) : Own H (leavesC K A lv :: R) := O.joinC
theorem leaf_da (O : Own H (rowC leafC A.pl A.ds lv :: R)) : DV K H (.ref A.pl) lv := by
  have h := box_da (K := K) (f := leafC) (g := fun l => l) (fun d l R (O : Own H ([.m d (.lst (l.map V.int))] :: R)) => (DA.ints l).list (O.at 0 0 rfl)) (row_split O).f1
  rw [List.map_id'] at h
  exact h.list (O.at 0 0 rfl)
theorem leaf_ref (O : Own H (rowC leafC A.pl A.ds lv :: R)) (h : lv[i]? = some l) : (A.ds.map V.ref)[i]? = some (.ref (A.ds.getD i 0)) ∧ H (A.ds.getD i 0) = some (.lst (l.map V.int)) :=
  ⟨row_at O h, Own.at (row_out O h) 0 0 rfl⟩
theorem hd_get {l : List Int} (h : l ≠ []) : (l.map V.int)[0]? = some (.int (hd l)) := by
  cases l with
  | nil => exact absurd rfl h
  | cons a l => rfl
theorem ints_all (l : List Int) : (l.map V.int).all flatV = true := by
  rw [List.all_map]
  exact List.all_eq_true.mpr fun _ _ => rfl
theorem ints_in (x : Int) (l : List Int) : inV (.int x) (l.map V.int) = decide (x ∈ l) := by
  induction l with
  | nil => rfl
  | cons a l ih =>
    show (eqV (.int a) (.int x) || inV (.int x) (l.map V.int)) = _
    rw [ih, show eqV (.int a) (.int x) = (a == x) from rfl, Bool.eq_iff_iff, Bool.or_eq_true, beq_iff_eq, decide_eq_true_eq, decide_eq_true_eq, List.mem_cons]
    constructor
    · rintro (e | e)
      · exact .inl e.symm
      · exact .inr e
    · rintro (e | e)
      · exact .inl e.symm
      · exact .inr e
end
section
variable {P : Program} {w : World} {K : PySem.W.Frag} {mg : Str → Option Value} {base : Heap}
def sp_Leaves___init__ (K : PySem.W.Frag) : Sp := fun vs H Q _ => ∃ (p dx : Addr) (R : List (List Ce)), vs = [.ref p] ∧ Own H ([.m p (.ins (He.ga K "Leaves") dx [])] :: R) ∧ ∀ H' A, A.p = p → Own H' (leavesC K A [] :: R) → Q .non H'
theorem sc_Leaves___init__ : FnScope ["self"] ["self"] (defScope s_Leaves___init__) := ⟨rfl, rfl, rfl, by decide +kernel, rfl, by decide +kernel, by decide +kernel⟩
theorem ok_Leaves___init__ (T : Txt K mg) : OkD P w K mg base 2 ("Leaves", some "__init__") ["self"] [] (sp_Leaves___init__ K) := by
  refine ok_of T.f_Leaves___init__ sc_Leaves___init__ (fun vs H Q E h => ?_) (fun dV kV doc pm an cdv ct us hl => match us, hl with | [_], _ => rfl) (fun cdv A outer s H vs Q E hr h => ?_)
  · obtain ⟨p, dx, R, rfl, _⟩ := h
    rfl
  · obtain ⟨p, dx, R, rfl, O, q⟩ := h
    have c1 := T.cls_Leaves
    have c2 := T.no_Leaves_parted
    refine ⟨_, (pss_one (ps_fld (pv 0) (pe_lst pa_nil) rfl)), ?_⟩
    try dsimp only [L2.cxOf]
    reads_via
    rename_i pl hp H0 O0 H1 O1
    rw [in_Leaves] at O1
    refine q H1 ⟨p, dx, pl, []⟩ rfl ?_
    have O2 : Own H1 ([.m p (.ins (He.ga K "Leaves") dx (flLeaves (.ref pl)))] :: [.m pl (.lst [])] :: R) := O1
    exact leaves_join (A := ⟨p, dx, pl, []⟩) (lv := []) (row_nil O2.f1).f1
def sp_Leaves_leaf_at (K : PySem.W.Frag) : Sp := fun vs H Q _ => ∃ (A : LvA) (lv : List (List Int)) (R : List (List Ce)) (k : Int), vs = [.ref A.p, .int k] ∧ Own H (leavesC K A lv :: R) ∧ LvOk lv ∧ lv.length ≤ 100000 ∧ Q (.int (lvAt lv k)) H
theorem sc_Leaves_leaf_at : FnScope ["self", "key", "low", "high", "middle"] ["self", "key"] (defScope s_Leaves_leaf_at) := ⟨rfl, rfl, rfl, by decide +kernel, rfl, by decide +kernel, by decide +kernel⟩
theorem ok_Leaves_leaf_at (T : Txt K mg) : OkD P w K mg base 2 ("Leaves", some "leaf_at") ["self", "key"] [] (sp_Leaves_leaf_at K) := by
  refine ok_of T.f_Leaves_leaf_at sc_Leaves_leaf_at (fun vs H Q E h => ?_) (fun dV kV doc pm an cdv ct us hl => match us, hl with | [_, _], _ => rfl) (fun cdv A outer s H vs Q E hr h => ?_)
  · obtain ⟨A, lv, R, k, rfl, _⟩ := h
    rfl
  · obtain ⟨A, lv, R, k, rfl, O, hlv, hlen, q⟩ := h
    have O1 := leaves_split O
    clear O
    refine ⟨_, (pss_cons (ps_set (i := 2) sc_Leaves_leaf_at.nd rfl (Or.inl rfl) pe_int)
      (pss_cons (ps_set (i := 3) sc_Leaves_leaf_at.nd rfl (Or.inl rfl) (pe_callB call_len_seq (by rfl) T.free_len (by decide +kernel) (pa_cons (pe_Leaves_parted T (pv 0)) pa_nil)))
      (pss_cons (ps_while (passes_of rfl) (pt_cmpR op_gt (pe_op op_sub (pv 3) (pv 2)) pe_int (nomark _))
      (pss_cons (ps_set (i := 4) sc_Leaves_leaf_at.nd rfl (Or.inl rfl) (pe_op op_fdiv (pe_op op_add (pv 2) (pv 3)) pe_int))
      (pss_one (ps_if (pt_cmpR op_le (pe_ix (ix_listK (K := K) rfl) (pe_ix (ix_listK (K := K) rfl) (pe_Leaves_parted T (pv 0)) (pv 4) (fun _ _ => rfl)) pe_int (fun _ _ => rfl)) (pv 1) (nomark _))
      (pss_one (ps_set (i := 2) sc_Leaves_leaf_at.nd rfl (Or.inl rfl) (pv 4)))
      (pss_one (ps_set (i := 3) sc_Leaves_leaf_at.nd rfl (Or.inl rfl) (pv 4)))))))
      (pss_one (ps_ret (pv 2)))))), ?_⟩
    try dsimp only [L2.cxOf]
    leaf_len
    have hl : A.ds.length = lv.length := row_len O1.f1
    refine whileB (fun σ H' => H' = H ∧ ∃ (lo hi : Nat) (m : Option V), σ = [some (.ref A.p), some (.int k), some (.int lo), some (.int hi), m] ∧ hi ≤ lv.length ∧ (lo < hi ∨ lo = 0 ∧ hi = 0) ∧ (lo = 0 ∨ ∃ l, lv[lo]? = some l ∧ hd l ≤ k) ∧ (hi = lv.length ∨ ∃ l, lv[hi]? = some l ∧ k < hd l))
      (fun σ _ => match σ with | [_, _, some (.int lo), some (.int hi), _] => (hi - lo).toNat | _ => 0) ?_ ?_
    · refine ⟨rfl, 0, lv.length, none, ?_, Nat.le_refl _, by omega, .inl rfl, .inl rfl⟩
      rw [List.length_map, hl]
      rfl
    · rintro σ H' ⟨rfl, lo, hi, m, rfl, hhi, h2, ha, hb⟩
      refine ⟨decide ((1 : Int) < (hi : Int) - lo), fun Q' q' => ?_, ?_⟩
      · leaf_len
        exact q'
      · by_cases hc : (1 : Int) < (hi : Int) - lo
        · rw [if_pos (decide_eq_true hc)]
          have hm : ((lo : Int) + hi) / 2 = (((lo + hi) / 2 : Nat) : Int) := by omega
          have hml : (lo + hi) / 2 < lv.length := by omega
          have hge := List.getElem?_eq_getElem hml
          have hr := leaf_ref O1.f1 hge
          have hne := hlv.ne _ (List.getElem_mem hml)
          have hhd := hd_mem hne
          leaf_len
          refine ⟨by rw [hm]; exact atI_nat hr.1, ?_⟩
          leaf_len
          refine ⟨SqL.of hr.2, ?_⟩
          leaf_len
          refine ⟨atI_nat (j := 0) (hd_get hne), ?_⟩
          leaf_len
          refine ite2 (fun hc2 => ?_) (fun hc2 => ?_)
          · rw [decide_eq_true_eq] at hc2
            refine ⟨_, rfl, ⟨rfl, (lo + hi) / 2, hi, some (.int (((lo : Int) + hi) / 2)), by rw [← hm]; rfl, hhi, by omega, .inr ⟨_, hge, hc2⟩, hb⟩, ?_⟩
            show ((hi : Int) - ((lo : Int) + hi) / 2).toNat < ((hi : Int) - lo).toNat
            omega
          · rw [decide_eq_true_eq] at hc2
            refine ⟨_, rfl, ⟨rfl, lo, (lo + hi) / 2, some (.int (((lo : Int) + hi) / 2)), by rw [← hm]; rfl, by omega, by omega, ha, .inr ⟨_, hge, by omega⟩⟩, ?_⟩
            show (((lo : Int) + hi) / 2 - lo).toNat < ((hi : Int) - lo).toNat
            omega
        · rw [if_neg (by rw [decide_eq_true_eq]; exact hc)]
          rw [lvAt_of hlv hhi (by omega) h2 ha hb]  
          leaf_len
          exact q
def sp_Leaves_has (K : PySem.W.Frag) : Sp := fun vs H Q _ => ∃ (A : LvA) (lv : List (List Int)) (R : List (List Ce)) (k : Int), vs = [.ref A.p, .int k] ∧ Own H (leavesC K A lv :: R) ∧ LvOk lv ∧ lv.length ≤ 100000 ∧ ∀ H', Own H' (leavesC K A lv :: R) → Q (.bl (decide (k ∈ lv.flatten))) H'
theorem sc_Leaves_has : FnScope ["self", "key"] ["self", "key"] (defScope s_Leaves_has) := ⟨rfl, rfl, rfl, by decide +kernel, rfl, by decide +kernel, by decide +kernel⟩
theorem ok_Leaves_has (T : Txt K mg) : OkD P w K mg base 3 ("Leaves", some "has") ["self", "key"] [] (sp_Leaves_has K) := by
  refine ok_of T.f_Leaves_has sc_Leaves_has (fun vs H Q E h => ?_) (fun dV kV doc pm an cdv ct us hl => match us, hl with | [_, _], _ => rfl) (fun cdv A outer s H vs Q E hr h => ?_)
  · obtain ⟨A, lv, R, k, rfl, _⟩ := h
    rfl
  · obtain ⟨A, lv, R, k, rfl, O, hlv, hlen, q⟩ := h
    have O1 := leaves_split O
    refine ⟨_, (pss_one (ps_ret (pe_and (pe_cmpR (op_neD hr.units) (pe_Leaves_parted T (pv 0)) (pe_lst pa_nil) (nomark _)) (pe_one (pe_cmpR op_in_seq (pv 1) (pe_ix (ix_listK (K := K) rfl) (pe_Leaves_parted T (pv 0)) (pe_GM (ok_Leaves_leaf_at (K := K) T) (pv 0) T.cls_Leaves T.me_Leaves_leaf_at gMLeaves_leaf_at hr passL (pa_cons (pv 1) pa_nil)) (fun _ _ => rfl)) (by rfl)))))), ?_⟩
    try dsimp only [L2.cxOf]
    leaf_len
    rename_i p hp H1 O2
    refine neD_of (leaf_da O2.f2) (DA.nil.list (O2.at 0 0 rfl)) (by decide) ?_
    by_cases hn : lv = []
    · rw [hn] at q ⊢
      leaf_len
      exact q _ (hn ▸ leaves_join O2.drop)
    · have e : (!decide (lv = [])) = true := by rw [decide_eq_false hn]; rfl
      rw [e]
      have O3 : Own H1 (leavesC K A lv :: R) := leaves_join O2.drop
      have ha := lvAt_lt hn k
      have hge := List.getElem?_eq_getElem ha
      have hr := leaf_ref O2.f2 hge
      have hmem := mem_at (k := k) hlv hn
      have eg : lv.getD (lvAt lv k) [] = lv[lvAt lv k] := by rw [List.getD_eq_getElem?_getD, List.getElem?_eq_getElem ha]; rfl
      clear O
      leaf_len
      refine ⟨atI_nat hr.1, ?_⟩
      refine ⟨_, _, rfl, .inl (SqL.of hr.2), rfl, ints_all _, ?_⟩
      rw [if_neg (by decide), ints_in, decide_eq_decide.mpr (eg ▸ hmem).symm]
      exact q _ O3
end
end SW
namespace SW
open PySem PySem.Spec PyProof.Rows L2
theorem ixN_nat {n j : Nat} (h : j < n) : ixN n (j : Int) = some j := by
  unfold ixN
  rw [if_pos (by omega), if_pos (by omega)]
  rfl
theorem cut_take (xs : List V) (n : Nat) : cutV xs none (some (n : Int)) = xs.take n := by
  unfold cutV HT.sIx
  dsimp only
  rw [List.drop_zero, Nat.sub_zero]
  rw [if_neg (by omega)]
  by_cases h : n ≤ xs.length
  · congr 1
    omega
  · rw [List.take_of_length_le (by omega), List.take_of_length_le (by omega)]
theorem cut_drop (xs : List V) (n : Nat) : cutV xs (some (n : Int)) none = xs.drop n := by
  unfold cutV HT.sIx
  dsimp only
  rw [if_neg (by omega)]
  by_cases h : n ≤ xs.length
  · rw [List.take_of_length_le (by rw [List.length_drop]; omega)]
    congr 1
    omega
  · rw [List.drop_of_length_le (by omega), List.drop_of_length_le (by omega), List.take_nil]
theorem seqIndex_nat {n j : Nat} (h : j < n) : seqIndex? (j : Int) n = some j := by
  unfold seqIndex?
  dsimp only
  rw [if_neg (c := (j : Int) < 0) (by omega), if_pos (by rw [Bool.and_eq_true, decide_eq_true_eq, decide_eq_true_eq]; omega)]
  rfl
section
variable {P : Program} {w : World} {K : PySem.W.Frag} {mg : Str → Option Value} {base : Heap}
def sp_Leaves_join_at (K : PySem.W.Frag) : Sp := fun vs H Q _ => ∃ (A : LvA) (lv : List (List Int)) (R : List (List Ce)) (i : Int), vs = [.ref A.p, .int i] ∧ Own H (leavesC K A lv :: R) ∧ lv.length ≤ 100000 ∧ (∀ l ∈ lv, l.length ≤ 8) ∧
  ∀ H' A', A'.p = A.p → Own H' (leavesC K A' (lvJoin lv i) :: R) → Q .non H'
theorem sc_Leaves_join_at : FnScope ["self", "at", "joined"] ["self", "at"] (defScope s_Leaves_join_at) := ⟨rfl, rfl, rfl, by decide +kernel, rfl, by decide +kernel, by decide +kernel⟩
theorem ok_Leaves_join_at (T : Txt K mg) : OkD P w K mg base 2 ("Leaves", some "join_at") ["self", "at"] [] (sp_Leaves_join_at K) := by
  refine ok_of T.f_Leaves_join_at sc_Leaves_join_at (fun vs H Q E h => ?_) (fun dV kV doc pm an cdv ct us hl => match us, hl with | [_, _], _ => rfl) (fun cdv A outer s H vs Q E hr h => ?_)
  · obtain ⟨A, lv, R, k, rfl, _⟩ := h
    rfl
  · obtain ⟨A, lv, R, i, rfl, O, hlen, h8, q⟩ := h
    have O1 := leaves_split O
    refine ⟨_, (pss_one (ps_if (pt_chain op_le op_lt pe_int (pv 1) (pe_op op_sub (pe_callB call_len_seq (by rfl) T.free_len (by decide +kernel) (pa_cons (pe_Leaves_parted T (pv 0)) pa_nil)) pe_int))
      (pss_cons (ps_set (i := 2) sc_Leaves_join_at.nd rfl (Or.inl rfl) (pe_op op_cat (pe_ix (ix_listK (K := K) rfl) (pe_Leaves_parted T (pv 0)) (pv 1) (fun _ _ => rfl)) (pe_ix (ix_listK (K := K) rfl) (pe_Leaves_parted T (pv 0)) (pe_op op_add (pv 1) pe_int) (fun _ _ => rfl))))
      (pss_one (ps_if (pt_cmpR op_lt (pe_callB call_len_seq (by rfl) T.free_len (by decide +kernel) (pa_cons (pv 2) pa_nil)) (pe_cint T.int_LEAST_OF_TWO) (nomark _))
      (pss_cons (ps_asg (pv 2) (pg_sub (pe_Leaves_parted T (pv 0)) (pv 1) set_list))
      (pss_one (ps_expr (pe_bm PySem.F.plainAttrs_list PySem.F.slot_list_pop PySem.F.type_list_pop mt_popAt (pe_Leaves_parted T (pv 0)) (pa_cons (pe_op op_add (pv 1) pe_int) pa_nil)))))
      pss_nil)))
      pss_nil)), ?_⟩
    try dsimp only [L2.cxOf]
    have hl : A.ds.length = lv.length := row_len O1.f1
    have hm : (A.ds.map V.ref).length = lv.length := by rw [List.length_map, hl]
    clear O
    by_cases h0 : 0 ≤ i
    · by_cases h1 : i < (lv.length : Int) - 1
      · obtain ⟨j, rfl⟩ := Int.eq_ofNat_of_zero_le h0
        have hj : j < lv.length := by omega
        have hj2 : j + 1 < lv.length := by omega
        have hr := leaf_ref O1.f1 (List.getElem?_eq_getElem hj)
        have hr2 := leaf_ref O1.f1 (List.getElem?_eq_getElem hj2)
        have e8 := h8 _ (List.getElem_mem hj)
        have e82 := h8 _ (List.getElem_mem hj2)
        unfold lvJoin at q
        rw [if_pos ⟨h0, h1⟩] at q
        leaf_len
        refine ⟨atI_nat hr.1, ?_⟩
        leaf_len
        refine ⟨by rw [show ((j : Int) + 1) = ((j + 1 : Nat) : Int) from rfl]; exact atI_nat hr2.1, ?_⟩
        leaf_len
        refine ⟨hr.2, hr2.2, Nat.le_of_lt (small_size (by simp only [List.length_map]; omega)), ?_⟩
        rw [← List.map_append]
        leaf_len
        rename_i p hp H1 O2
        have ej : lv.getD j [] = lv[j] := by rw [List.getD_eq_getElem?_getD, List.getElem?_eq_getElem hj]; rfl
        have ej2 : lv.getD (j + 1) [] = lv[j + 1] := by rw [List.getD_eq_getElem?_getD, List.getElem?_eq_getElem hj2]; rfl
        dsimp only at q
        rw [show ((j : Int)).toNat = j from rfl, ej, ej2] at q
        generalize lv[j] ++ lv[j + 1] = l at *
        have hlm : (l.map V.int).length = l.length := List.length_map _
        by_cases hc : l.length < 5
        · rw [if_pos hc] at q
          leaf_len
          refine ⟨ixN_nat (by omega), ?_⟩
          generalize hh : upd H1 _ _ = H2
          have O3 := row_set (f := leafC) (l := l) (i := j) O2.f2.f1 hj hh
          clear hh
          have hm2 : ((A.ds.set j p).map V.ref).length = lv.length := by rw [List.length_map, List.length_set, hl]
          have hg2 := List.getElem?_eq_getElem (l := (A.ds.set j p).map V.ref) (by rw [hm2]; exact hj2)
          leaf_len
          refine ⟨seqIndex_nat (j := j + 1) (by omega), hg2, ?_⟩
          generalize hh : upd H2 _ _ = H3
          have O4 := row_del O3 (by rw [List.length_set]; exact hj2) hh
          exact q H3 ⟨A.p, A.dx, A.pl, (A.ds.set j p).eraseIdx (j + 1)⟩ rfl (leaves_join O4.f1)
        · rw [if_neg hc] at q
          leaf_len
          exact q H1 A rfl (leaves_join O2.drop)
      · unfold lvJoin at q
        rw [if_neg (fun c => h1 c.2)] at q
        leaf_len
        exact q H A rfl (leaves_join O1)
    · unfold lvJoin at q
      rw [if_neg (fun c => h0 c.1)] at q
      leaf_len
      exact q H A rfl (leaves_join O1)
def sp_Leaves_add (K : PySem.W.Frag) : Sp := fun vs H Q _ => ∃ (A : LvA) (lv : List (List Int)) (R : List (List Ce)) (k : Int), vs = [.ref A.p, .int k] ∧ Own H (leavesC K A lv :: R) ∧ LvOk lv ∧ lv.length < 100000 ∧ k ∉ lv.flatten ∧
  ∀ H' A', A'.p = A.p → Own H' (leavesC K A' (lvAdd lv k) :: R) → Q .non H'
theorem sc_Leaves_add : FnScope ["self", "key", "at", "leaf"] ["self", "key"] (defScope s_Leaves_add) := ⟨rfl, rfl, rfl, by decide +kernel, rfl, by decide +kernel, by decide +kernel⟩
theorem ok_Leaves_add (T : Txt K mg) : OkD P w K mg base 4 ("Leaves", some "add") ["self", "key"] [] (sp_Leaves_add K) := by
  refine ok_of T.f_Leaves_add sc_Leaves_add (fun vs H Q E h => ?_) (fun dV kV doc pm an cdv ct us hl => match us, hl with | [_, _], _ => rfl) (fun cdv A outer s H vs Q E hr h => ?_)
  · obtain ⟨A, lv, R, k, rfl, _⟩ := h
    rfl
  · obtain ⟨A, lv, R, k, rfl, O, hlv, hlen, hk, q⟩ := h
    refine ⟨_, (pss_cons (ps_if (pt_val (pe_GM (ok_Leaves_has (K := K) T) (pv 0) T.cls_Leaves T.me_Leaves_has gMLeaves_has hr passL (pa_cons (pv 1) pa_nil)))
      (pss_one ps_never)
      pss_nil)
      (pss_cons (ps_if (pt_cmpR (op_eqD hr.units) (pe_Leaves_parted T (pv 0)) (pe_lst pa_nil) (nomark _))
      (pss_cons (ps_expr (pe_bm PySem.F.plainAttrs_list PySem.F.slot_list_append PySem.F.type_list_append mt_append (pe_Leaves_parted T (pv 0)) (pa_cons (pe_lst (pa_cons (pv 1) pa_nil)) pa_nil)))
      (pss_one ps_retN))
      pss_nil)
      (pss_cons (ps_set (i := 2) sc_Leaves_add.nd rfl (Or.inl rfl) (pe_GM (ok_Leaves_leaf_at (K := K) T) (pv 0) T.cls_Leaves T.me_Leaves_leaf_at gMLeaves_leaf_at hr passL (pa_cons (pv 1) pa_nil)))
      (pss_cons (ps_set (i := 3) sc_Leaves_add.nd rfl (Or.inl rfl) (pe_callB cr_sorted (by rfl) T.free_sorted (by decide +kernel) (pa_cons (pe_op op_cat (pe_ix (ix_listK (K := K) rfl) (pe_Leaves_parted T (pv 0)) (pv 2) (fun _ _ => rfl)) (pe_lst (pa_cons (pv 1) pa_nil))) pa_nil)))
      (pss_cons (ps_asg (pv 3) (pg_sub (pe_Leaves_parted T (pv 0)) (pv 2) set_list))
      (pss_one (ps_if (pt_cmpR op_gt (pe_callB call_len_seq (by rfl) T.free_len (by decide +kernel) (pa_cons (pv 3) pa_nil)) (pe_cint T.int_MOST_KEYS) (nomark _))
      (pss_cons (ps_asg (pe_slice sl_list (pv 3) po_none (po_some pe_int)) (pg_sub (pe_Leaves_parted T (pv 0)) (pv 2) set_list))
      (pss_one (ps_expr (pe_bm PySem.F.plainAttrs_list PySem.F.slot_list_insert PySem.F.type_list_insert mt_insert (pe_Leaves_parted T (pv 0)) (pa_cons (pe_op op_add (pv 2) pe_int) (pa_cons (pe_slice sl_list (pv 3) (po_some pe_int) po_none) pa_nil))))))
      pss_nil))))))), ?_⟩
    try dsimp only [L2.cxOf]
    leaf_len
    intro H1 O1
    clear O
    have O2 := leaves_split O1
    rw [decide_eq_false hk]
    leaf_len
    rename_i p hp H2 O3
    refine eqD_of (leaf_da O3.f2) (DA.nil.list (O3.at 0 0 rfl)) (by decide) ?_
    have O4 := O3.drop
    clear O1 O2 O3
    by_cases hn : lv = []
    · subst hn
      have hm : (A.ds.map V.ref).length = 0 := row_lenV O4.f1
      leaf_len
      refine ⟨by rw [hm]; exact small_size (Nat.zero_le _), ?_⟩
      rename_i p hp H3 O5
      generalize hh : upd _ A.pl _ = H4
      have O6 := row_app (f := leafC) (l := [k]) O5.f2.f1 hh
      clear hh O4 O5
      leaf_len
      exact q H4 ⟨A.p, A.dx, A.pl, A.ds ++ [p]⟩ rfl (leaves_join O6.f1)
    · have ha := lvAt_lt hn k
      have hge := List.getElem?_eq_getElem ha
      have hr := leaf_ref O4.f1 hge
      have O5 := leaves_join O4
      have hi8 := hlv.le8 _ (List.getElem_mem ha)
      have eg : lv.getD (lvAt lv k) [] = lv[lvAt lv k] := by rw [List.getD_eq_getElem?_getD, List.getElem?_eq_getElem ha]; rfl
      generalize hleaf : lv[lvAt lv k] = leaf at *
      leaf_len
      refine ⟨atI_nat hr.1, ?_⟩
      leaf_len
      rename_i p hp H3 O6
      have hr := leaf_ref (leaves_split O6.f1).f1 hge
      refine ⟨hr.2, O6.at 0 0 rfl, Nat.le_of_lt (small_size (by simp only [List.length_map, List.length_singleton]; omega)), ?_⟩
      regstrif_fact
      rename_i p2 hp2 H4 O7
      clear hr
      have hls := hlv.leaf (List.getElem_mem ha)
      have hkl : k ∉ leaf := fun h => hk (List.mem_flatten.mpr ⟨_, List.getElem_mem ha, hleaf ▸ h⟩)
      rw [hleaf] at hls
      have hlen9 := len_insS k leaf
      leaf_len
      refine ⟨(SqL.of (by rw [List.map_append]; exact O7.at 0 0 rfl) : SqL K H4 p2 ((leaf ++ [k]).map V.int)), by rw [List.length_append, List.length_singleton]; omega, fun ns p3 hperm hsrt hp3 => ?_⟩
      obtain rfl := insS_of hls hkl hperm hsrt
      generalize hh : upd H4 _ _ = H5
      have O8 := O7.gen hp3 hh
      clear hh O5 O6
      unfold lvAdd at q
      dsimp only at q
      rw [if_neg hn, eg] at q
      generalize insS k leaf = l2 at *
      have O9 := (leaves_split O8.drop1.drop1.f1).f1.f2.f2
      clear O7 O8
      have hm := row_lenV O9.f2
      obtain ⟨hm3, _⟩ : (A.ds.map V.ref).length = lv.length ∧ True := ⟨hm, trivial⟩
      refine ⟨_, rfl, ?_⟩
      leaf_len
      refine ⟨ixN_nat (by omega), ?_⟩
      generalize hh : upd H5 _ _ = H6
      have O10 := row_set (f := leafC) (l := l2) O9.f2.f2 ha hh
      clear hh O9
      have hge2 : (lv.set (lvAt lv k) l2)[lvAt lv k]? = some l2 := List.getElem?_set_self ha
      have hr2 := leaf_ref (A := ⟨A.p, A.dx, A.pl, A.ds.set (lvAt lv k) p3⟩) O10 hge2
      have hd3 : (A.ds.set (lvAt lv k) p3).getD (lvAt lv k) 0 = p3 := by
        rw [List.length_map] at hm
        rw [List.getD_eq_getElem?_getD, List.getElem?_set_self (by omega)]
        rfl
      dsimp only at hr2
      rw [hd3] at hr2
      have hlm : (l2.map V.int).length = l2.length := List.length_map _
      by_cases hc : 8 < l2.length
      · rw [if_pos hc] at q
        leaf_len
        refine ⟨.inl (SqL.of hr2.2), ?_⟩
        leaf_len
        refine ⟨SqL.of hr2.2, fun p4 hp4 => ?_⟩
        rw [show cutV (l2.map V.int) none (some 4) = (l2.take 4).map V.int by rw [List.map_take]; exact cut_take _ 4]
        generalize hh : upd H6 _ _ = H7
        have O11 := O10.gen hp4 hh
        clear hh
        have hm4 := row_lenV O10
        rw [List.length_set] at hm4
        leaf_len
        refine ⟨ixN_nat (by omega), ?_⟩
        generalize hh : upd H7 _ _ = H8
        have O12 := row_swap (f := leafC) (l := l2.take 4) (i := lvAt lv k) O11 hge2 hh
        clear hh
        rw [hd3, List.set_set, List.set_set] at O12
        have hm5 := row_lenV O12
        rw [List.length_set] at hm5
        have O13 : Own H8 ([.m A.p (.ins (He.ga K "Leaves") A.dx (flLeaves (.ref A.pl)))] :: rowC leafC A.pl (A.ds.set (lvAt lv k) p4) (lv.set (lvAt lv k) (l2.take 4)) :: [.m p3 (.lst (l2.map V.int))] :: R) := O12.f2
        clear O10 O11 O12
        leaf_len
        rename_i p5 hp5 H9 O14
        refine ⟨small_size (by omega), by omega, by omega, ?_⟩
        rw [show cutV (l2.map V.int) (some 4) none = (l2.drop 4).map V.int by rw [List.map_drop]; exact cut_drop _ 4] at O14
        rw [show ((lvAt lv k : Int) + 1).toNat = lvAt lv k + 1 by omega]
        generalize hh : upd H9 _ _ = H10
        have O15 := row_ins (f := leafC) (l := l2.drop 4) O14.f2.f1 (lvAt lv k + 1) (by rw [List.length_set]; omega) hh
        exact q H10 ⟨A.p, A.dx, A.pl, (A.ds.set (lvAt lv k) p4).take (lvAt lv k + 1) ++ [p5] ++ (A.ds.set (lvAt lv k) p4).drop (lvAt lv k + 1)⟩ rfl (leaves_join O15.f2.drop.f1)
      · rw [if_neg hc] at q
        leaf_len
        refine ⟨.inl (SqL.of hr2.2), ?_⟩
        leaf_len
        exact q H6 ⟨A.p, A.dx, A.pl, A.ds.set (lvAt lv k) p3⟩ rfl (leaves_join O10.f1)
def sp_Leaves_discard (K : PySem.W.Frag) : Sp := fun vs H Q _ => ∃ (A : LvA) (lv : List (List Int)) (R : List (List Ce)) (k : Int), vs = [.ref A.p, .int k] ∧ Own H (leavesC K A lv :: R) ∧ LvOk lv ∧ lv.length ≤ 100000 ∧ k ∈ lv.flatten ∧
  ∀ H' A', A'.p = A.p → Own H' (leavesC K A' (lvDel lv k) :: R) → Q .non H'
theorem sc_Leaves_discard : FnScope ["self", "key", "at", "one", "leaf"] ["self", "key"] (defScope s_Leaves_discard) := ⟨rfl, rfl, rfl, by decide +kernel, rfl, by decide +kernel, by decide +kernel⟩
theorem ok_Leaves_discard (T : Txt K mg) : OkD P w K mg base 4 ("Leaves", some "discard") ["self", "key"] [] (sp_Leaves_discard K) := by
  refine ok_of T.f_Leaves_discard sc_Leaves_discard (fun vs H Q E h => ?_) (fun dV kV doc pm an cdv ct us hl => match us, hl with | [_, _], _ => rfl) (fun cdv A outer s H vs Q E hr h => ?_)
  · obtain ⟨A, lv, R, k, rfl, _⟩ := h
    rfl
  · obtain ⟨A, lv, R, k, rfl, O, hlv, hlen, hk, q⟩ := h
    refine ⟨_, (pss_cons (ps_if (pt_not (pt_val (pe_GM (ok_Leaves_has (K := K) T) (pv 0) T.cls_Leaves T.me_Leaves_has gMLeaves_has hr passL (pa_cons (pv 1) pa_nil))))
      (pss_one ps_never)
      pss_nil)
      (pss_cons (ps_set (i := 2) sc_Leaves_discard.nd rfl (Or.inl rfl) (pe_GM (ok_Leaves_leaf_at (K := K) T) (pv 0) T.cls_Leaves T.me_Leaves_leaf_at gMLeaves_leaf_at hr passL (pa_cons (pv 1) pa_nil)))
      (pss_cons (ps_setLc (i := 4) (own := [("one", 3)]) rfl sc_Leaves_discard.nd rfl rfl (sw_true rfl rfl rfl (by decide +kernel)) (pi_list (pe_ix (ix_listK (K := K) rfl) (pe_Leaves_parted T (pv 0)) (pv 2) (fun _ _ => rfl))) (blkOk_by (own := [("one", 3)]) (N := ["self", "key", "at", "one", "leaf"]) (sc := defScope s_Leaves_discard) (by decide +kernel)) (fun _ _ _ _ _ => (pg_name (i := 3) sc_Leaves_discard.nd rfl (Or.inl rfl))) (fun _ _ _ _ _ => (pts_one (pt_cmpR op_ne (pv 3) (pv 1) (nomark _)))) (fun _ _ _ _ _ => (pv 3)))
      (pss_cons (ps_if (pt_cmpR (op_eqD hr.units) (pv 4) (pe_lst pa_nil) (nomark _))
      (pss_cons (ps_expr (pe_bm PySem.F.plainAttrs_list PySem.F.slot_list_pop PySem.F.type_list_pop mt_popAt (pe_Leaves_parted T (pv 0)) (pa_cons (pv 2) pa_nil)))
      (pss_one ps_retN))
      pss_nil)
      (pss_cons (ps_asg (pv 4) (pg_sub (pe_Leaves_parted T (pv 0)) (pv 2) set_list))
      (pss_cons (ps_expr (pe_GM (ok_Leaves_join_at (K := K) T) (pv 0) T.cls_Leaves T.me_Leaves_join_at gMLeaves_join_at hr passL (pa_cons (pv 2) pa_nil)))
      (pss_one (ps_expr (pe_GM (ok_Leaves_join_at (K := K) T) (pv 0) T.cls_Leaves T.me_Leaves_join_at gMLeaves_join_at hr passL (pa_cons (pe_op op_sub (pv 2) pe_int) pa_nil)))))))))), ?_⟩
    try dsimp only [L2.cxOf]
    leaf_len
    intro H1 O1
    clear O
    have O2 := leaves_split O1
    rw [decide_eq_true hk]
    have hn : lv ≠ [] := fun e => by rw [e] at hk; cases hk
    have ha := lvAt_lt hn k
    have hge := List.getElem?_eq_getElem ha
    have hr := leaf_ref O2.f1 hge
    leaf_len
    refine ⟨atI_nat hr.1, ?_⟩
    leaf_len
    refine ⟨⟨_, SqL.of hr.2⟩, ?_⟩
    have hi8 := hlv.le8 _ (List.getElem_mem ha)
    have eg : lv.getD (lvAt lv k) [] = lv[lvAt lv k] := by rw [List.getD_eq_getElem?_getD, List.getElem?_eq_getElem ha]; rfl
    generalize hleaf : lv[lvAt lv k] = leaf at *
    clear O2
    regstrif_fact
    rename_i D hD H2 O3
    refine lcL (xs := leaf.map V.int) (fun i H3 => Own H3 ([.m D (.lst (((leaf.take i).filter fun x => decide (x ≠ k)).map V.int))] :: leavesC K A lv :: R)) O3 (fun i H3 hi O4 => SqL.of (leaf_ref (leaves_split O4.f1).f1 hge).2) ?_ ?_
    · intro i x H3 hx O4
      obtain ⟨n, hn2, rfl⟩ : ∃ n, leaf[i]? = some n ∧ x = .int n := by
        rw [List.getElem?_map] at hx
        cases e : leaf[i]? with
        | none =>
          rw [e] at hx
          cases hx
        | some n =>
          rw [e] at hx
          exact ⟨n, rfl, (Option.some.inj hx).symm⟩
      have hil := (List.getElem?_eq_some_iff.mp hn2).1
      have ets : leaf.take (i + 1) = leaf.take i ++ [n] := by rw [List.take_add_one, hn2]; rfl
      rw [ets, List.filter_append]
      have htl : ((leaf.take i).filter fun x => decide (x ≠ k)).length ≤ 8 := Nat.le_trans (List.length_filter_le _ _) (by rw [List.length_take]; omega)
      leaf_len
      by_cases hnk : n = k
      · have e1 : [n].filter (fun x => decide (x ≠ k)) = [] := by simp [hnk]
        rw [e1, List.append_nil]
        have e2 : V.int n = V.int k := by rw [hnk]
        leaf_len
        exact O4
      · have e1 : [n].filter (fun x => decide (x ≠ k)) = [n] := by simp [hnk]
        have e2 : ¬ V.int n = V.int k := fun h => hnk (V.int.inj h)
        rw [e1, List.map_append]
        leaf_len
        refine ⟨small_size (by rw [List.length_map]; omega), ?_⟩
        generalize hh : upd H3 _ _ = H4
        exact O4.genS hh
    · intro H3 O4
      rw [List.length_map, List.take_length] at O4
      leaf_len
      rename_i p hp H4 O5
      refine eqD_of ((DA.ints _).list (O5.at 1 0 rfl)) (DA.nil.list (O5.at 0 0 rfl)) (by decide) ?_
      have O6 := O5.drop
      clear O3 O4 O5
      have hz : (leaf.filter fun x => decide (x ≠ k)).length ≤ 8 := Nat.le_trans (List.length_filter_le _ _) hi8
      unfold lvDel at q
      dsimp only at q
      rw [eg] at q
      generalize (leaf.filter fun x => decide (x ≠ k)) = rest at *
      by_cases hr0 : rest = []
      · rw [if_pos hr0] at q
        have hm := row_lenV (leaves_split O6.f1).f1
        leaf_len
        refine ⟨seqIndex_nat (by omega), hr.1, ?_⟩
        generalize hh : upd H4 _ _ = H5
        have O7 := row_del (leaves_split O6.f1).f1 ha hh
        exact q H5 ⟨A.p, A.dx, A.pl, A.ds.eraseIdx (lvAt lv k)⟩ rfl (leaves_join O7.f2.drop.f1)
      · rw [if_neg hr0] at q
        have hm := row_lenV (leaves_split O6.f1).f1
        leaf_len
        refine ⟨ixN_nat (by omega), ?_⟩
        generalize hh : upd H4 _ _ = H5
        have O7 := row_set (f := leafC) (l := rest) (leaves_split O6.f1).f1.f2 ha hh
        have h8 : ∀ l ∈ lv.set (lvAt lv k) rest, l.length ≤ 8 := fun l hl => by
          rcases List.mem_or_eq_of_mem_set hl with e | e
          · exact hlv.le8 l e
          · rw [e]
            exact hz
        have hln : (lv.set (lvAt lv k) rest).length ≤ 100000 := by rw [List.length_set]; exact hlen
        obtain ⟨A2, e2, O8⟩ : ∃ A2 : LvA, A2.p = A.p ∧ Own H5 (leavesC K A2 (lv.set (lvAt lv k) rest) :: R) := ⟨⟨A.p, A.dx, A.pl, A.ds.set (lvAt lv k) D⟩, rfl, leaves_join O7.f1⟩
        rw [← e2] at q ⊢
        clear O6 O7 hh e2 hm hr
        generalize lvAt lv k = at_ at *
        generalize lv.set at_ rest = lw at *
        leaf_len
        intro H6 A3 e3 O9
        rw [← e3] at q ⊢
        clear O8 e3
        have h83 := lvJoin_le8 h8 at_
        have hln3 := Nat.le_trans (lvJoin_len lw at_) hln
        generalize lvJoin lw at_ = lx at *
        leaf_len
        exact q
end
end SW
namespace SW
open PySem PySem.Spec PyProof.Rows L2
/-! ### a dict with int keys as a row of pairs -/
section
variable {β : Type}
def encG (g : β → V) (l : List (Int × β)) : List (Key × V) := l.map fun p => (Sum.inl p.1, g p.2)
theorem valV_encG (g : β → V) (l : List (Int × β)) (k : Int) : valV (encG g l) (Sum.inl k : Key) = (aget l k).map g := by
  induction l with
  | nil => rfl
  | cons p l ih =>
    rw [aget_cons]
    show valV ((Sum.inl p.1, g p.2) :: encG g l) (Sum.inl k : Key) = _
    by_cases h : p.1 = k
    · rw [valV_pos (by rw [h]), if_pos h]
      rfl
    · rw [valV_neg (by simpa using h), if_neg h, ih]
theorem putK_encG (g : β → V) (l : List (Int × β)) (k : Int) (v : β) : putK (encG g l) (Sum.inl k : Key) (g v) = encG g (aput l k v) := by
  unfold putK aput encG
  rw [List.any_map]
  have e : ((fun kv : Key × V => decide (kv.1 = (Sum.inl k : Key))) ∘ fun p : Int × β => (Sum.inl p.1, g p.2)) = fun p : Int × β => decide (p.1 = k) := by
    funext p
    simp
  rw [e]
  split
  · rw [List.map_map, List.map_map]
    refine List.map_congr_left fun p _ => ?_
    by_cases h : p.1 = k <;> simp [h]
  · rw [List.map_append]
    rfl
theorem dropK_encG (g : β → V) (l : List (Int × β)) (k : Int) : dropK (encG g l) (Sum.inl k : Key) = encG g (adel l k) := by
  unfold dropK adel encG
  rw [List.filter_map]
  congr 1
  refine List.filter_congr fun p _ => ?_
  simp
theorem len_encG (g : β → V) (l : List (Int × β)) : (encG g l).length = l.length := List.length_map _
theorem encG_keys (g : β → V) (l : List (Int × β)) : (encG g l).map (·.1) = (l.map (·.1)).map Sum.inl := by
  unfold encG
  rw [List.map_map, List.map_map]
  rfl
/-- the place of a key -/
theorem nd_idx {l : List (Int × β)} (n : ANd l) {i j : Nat} {k : Int} {v w : β} (hi : l[i]? = some (k, v)) (hj : l[j]? = some (k, w)) : i = j := by
  have e1 : (l.map (·.1))[i]? = some k := by rw [List.getElem?_map, hi]; rfl
  have e2 : (l.map (·.1))[j]? = some k := by rw [List.getElem?_map, hj]; rfl
  obtain ⟨h1, e1⟩ := List.getElem?_eq_some_iff.mp e1
  obtain ⟨h2, e2⟩ := List.getElem?_eq_some_iff.mp e2
  exact (List.getElem_inj n).mp (e1.trans e2.symm)
theorem idx_of {l : List (Int × β)} {k : Int} {v : β} (h : aget l k = some v) : ∃ i : Nat, l[i]? = some (k, v) := by
  obtain ⟨i, hi, e⟩ := List.mem_iff_getElem.mp (aget_mem h)
  exact ⟨i, by rw [List.getElem?_eq_getElem hi, e]⟩
theorem idx_get {l : List (Int × β)} (n : ANd l) {i : Nat} {k : Int} {v : β} (hi : l[i]? = some (k, v)) : aget l k = some v := by
  have hm : (k, v) ∈ l := List.mem_of_getElem? hi
  have hs := mem_aget hm
  obtain ⟨w, hw⟩ := Option.isSome_iff_exists.mp hs
  obtain ⟨j, hj⟩ := idx_of hw
  obtain rfl := nd_idx n hi hj
  rw [hi] at hj
  rw [hw]
  exact congrArg some ((Prod.mk.inj (Option.some.inj hj)).2.symm)
theorem idx_put {l : List (Int × β)} (n : ANd l) {i : Nat} {k : Int} {v : β} (hi : l[i]? = some (k, v)) (w : β) : aput l k w = l.set i (k, w) := by
  have hg := idx_get n hi
  unfold aput
  rw [any_aget, hg, if_pos (show (some v).isSome = true from rfl)]
  refine List.ext_getElem? fun j => ?_
  rw [List.getElem?_map, List.getElem?_set]
  have hil := (List.getElem?_eq_some_iff.mp hi).1
  split
  · rename_i e
    subst e
    rw [hi]
    simp
  · rename_i e
    cases hj : l[j]? with
    | none => rfl
    | some p =>
      have : p.1 ≠ k := fun c => e (nd_idx n hi (v := v) (w := p.2) (by rw [hj, ← c]))
      simp [this]
theorem idx_del {l : List (Int × β)} (n : ANd l) {i : Nat} {k : Int} {v : β} (hi : l[i]? = some (k, v)) : adel l k = l.eraseIdx i := by
  unfold adel
  induction l generalizing i with
  | nil => cases hi
  | cons p l ih =>
    have n1 := List.nodup_cons.mp n
    cases i with
    | zero =>
      cases hi
      rw [List.filter_cons, if_neg (by simp), List.eraseIdx_cons_zero, List.filter_eq_self.mpr]
      intro q hq
      have : q.1 ≠ k := fun z => n1.1 (by show k ∈ _; rw [← z]; exact List.mem_map_of_mem (f := (·.1)) hq)
      simpa using this
    | succ i =>
      have hi2 : l[i]? = some (k, v) := hi
      have : p.1 ≠ k := fun z => n1.1 (by show p.1 ∈ _; rw [z]; exact List.mem_map_of_mem (f := (·.1)) (List.mem_of_getElem? hi2))
      rw [List.filter_cons, if_pos (by simpa using this), List.eraseIdx_cons_succ, ih n1.2 hi2]
end
section
variable {β γ : Type} {l : List (Int × β)} {m : List (Int × γ)} {k : Int}
/-- two rows with the same keys -/
theorem keys_idx (h : l.map (·.1) = m.map (·.1)) {i : Nat} {v : β} (hi : l[i]? = some (k, v)) : ∃ w, m[i]? = some (k, w) := by
  have e : (m.map (·.1))[i]? = some k := by rw [← h, List.getElem?_map, hi]; rfl
  rw [List.getElem?_map] at e
  cases hm : m[i]? with
  | none =>
    rw [hm] at e
    cases e
  | some p =>
    rw [hm] at e
    exact ⟨p.2, by rw [← Option.some.inj e]⟩
theorem keys_none (h : l.map (·.1) = m.map (·.1)) (e : aget m k = none) : aget l k = none := by
  cases hl : aget l k with
  | none => rfl
  | some v =>
    obtain ⟨i, hi⟩ := idx_of hl
    obtain ⟨w, hw⟩ := keys_idx h hi
    have := mem_aget (List.mem_of_getElem? hw)
    rw [e] at this
    cases this
end
end SW
namespace SW
open PySem PySem.Spec PyProof.Rows L2
/-! ### rows of tuples: facts that stay -/
section
variable {α : Type} {enc : α → List V} {H H' : Hp} {v : V} {vs ws : List V} {a : α} {as bs : List α}
def isT (enc : α → List V) (H : Hp) (v : V) (a : α) : Prop := ∃ p, v = .ref p ∧ H p = some (.tup (enc a))
def areT (enc : α → List V) (H : Hp) : List V → List α → Prop
  | [], [] => True
  | v :: vs, a :: as => isT enc H v a ∧ areT enc H vs as
  | _, _ => False
theorem st_areT : ∀ (vs : List V) (as : List α), Stable fun H => areT enc H vs as
  | [], [] => fun _ _ _ h => h
  | _ :: _, [] => fun _ _ _ h => h
  | [], _ :: _ => fun _ _ _ h => h
  | v :: vs, a :: as => fun H H' k h => by
    obtain ⟨⟨p, e, hp⟩, h2⟩ := h
    exact ⟨⟨p, e, k p _ hp rfl⟩, st_areT vs as H H' k h2⟩
theorem areT_len : ∀ {vs : List V} {as : List α}, areT enc H vs as → vs.length = as.length
  | [], [], _ => rfl
  | _ :: _, [], h => h.elim
  | [], _ :: _, h => h.elim
  | _ :: vs, _ :: as, h => congrArg (· + 1) (areT_len (vs := vs) (as := as) h.2)
theorem areT_app : ∀ {vs : List V} {as : List α}, areT enc H vs as → areT enc H ws bs → areT enc H (vs ++ ws) (as ++ bs)
  | [], [], _, h => h
  | _ :: _, [], h, _ => h.elim
  | [], _ :: _, h, _ => h.elim
  | _ :: _, _ :: _, h, u => ⟨h.1, areT_app h.2 u⟩
theorem areT_get : ∀ {vs : List V} {as : List α}, areT enc H vs as → ∀ {i : Nat} {a : α}, as[i]? = some a → ∃ v, vs[i]? = some v ∧ isT enc H v a
  | [], [], _, _, _, h => by cases h
  | _ :: _, [], h, _, _, _ => h.elim
  | [], _ :: _, h, _, _, _ => h.elim
  | v :: vs, b :: bs, h, i, a, e => by
    cases i with
    | zero =>
      cases e
      exact ⟨v, rfl, h.1⟩
    | succ i => exact areT_get h.2 e
theorem areT_getV : ∀ {vs : List V} {as : List α}, areT enc H vs as → ∀ {i : Nat} {v : V}, vs[i]? = some v → ∃ a, as[i]? = some a ∧ isT enc H v a
  | [], [], _, _, _, h => by cases h
  | _ :: _, [], h, _, _, _ => h.elim
  | [], _ :: _, h, _, _, _ => h.elim
  | v :: vs, b :: bs, h, i, a, e => by
    cases i with
    | zero =>
      cases e
      exact ⟨b, rfl, h.1⟩
    | succ i => exact areT_getV h.2 e
theorem areT_take : ∀ {vs : List V} {as : List α}, areT enc H vs as → ∀ n, areT enc H (vs.take n) (as.take n)
  | [], [], _, n => by cases n <;> exact True.intro
  | _ :: _, [], h, _ => h.elim
  | [], _ :: _, h, _ => h.elim
  | _ :: _, _ :: _, h, n => by
    cases n with
    | zero => exact True.intro
    | succ n => exact ⟨h.1, areT_take h.2 n⟩
theorem areT_drop : ∀ {vs : List V} {as : List α}, areT enc H vs as → ∀ n, areT enc H (vs.drop n) (as.drop n)
  | [], [], _, n => by cases n <;> exact True.intro
  | _ :: _, [], h, _ => h.elim
  | [], _ :: _, h, _ => h.elim
  | _ :: _, _ :: _, h, n => by
    cases n with
    | zero => exact h
    | succ n => exact areT_drop h.2 n
variable {K : PySem.W.Frag} [DecidableEq α] [Da α]
theorem areT_da (he : ∀ (H : Hp) (p : Addr) (a : α), H p = some (.tup (enc a)) → DV K H (.ref p) a) : ∀ {vs : List V} {as : List α}, areT enc H vs as → DA K H vs as
  | [], [], _ => .nil
  | _ :: _, [], h => h.elim
  | [], _ :: _, h => h.elim
  | _ :: _, _ :: _, h => by
    obtain ⟨⟨p, rfl, hp⟩, h2⟩ := h
    exact .cons (he H p _ hp) (areT_da he h2)
end
/-- a list of such tuples -/
def tupsC {α : Type} (enc : α → List V) (d : Addr) (vs : List V) (as : List α) : List Ce := [.m d (.lst vs), .p fun H => areT enc H vs as]
section
variable {α : Type} {enc : α → List V} {H H' : Hp} {v : V} {vs ws : List V} {a : α} {as : List α} {d : Addr} {R : List (List Ce)}
theorem tups_is (O : Own H (tupsC enc d vs as :: R)) : areT enc H vs as := O.fact 0 1 rfl
theorem tups_nil (O : Own H ([.m d (.lst [])] :: R)) : Own H (tupsC enc d [] [] :: R) := (Own.addP O (st_areT (enc := enc) [] []) True.intro).f1.join
/-- the row becomes another one of tuples that are there -/
theorem tups_to {bs : List α} (O : Own H (tupsC enc d vs as :: R)) (h : areT enc H ws bs) (e : upd H d (.lst ws) = H') : Own H' (tupsC enc d ws bs :: R) := by
  have O1 := (O.addP (st_areT ws bs) h).f1.genS (o' := .lst ws) e
  exact (Own.splitC O1).drop1.join
theorem tups_push (O : Own H (tupsC enc d vs as :: R)) (h : isT enc H v a) (e : upd H d (.lst (vs ++ [v])) = H') : Own H' (tupsC enc d (vs ++ [v]) (as ++ [a]) :: R) :=
  tups_to O (areT_app (tups_is O) ⟨h, True.intro⟩) e
/-- a new list of tuples that are there -/
theorem tups_new (O : Own H ([.m d (.lst vs)] :: R)) (h : areT enc H vs as) : Own H (tupsC enc d vs as :: R) := (O.addP (st_areT vs as) h).f1.join
end
/-! ### makes -/
abbrev Mk := Int × Option Int
def mkE (m : Mk) : List V := [.int m.1, oV m.2]
theorem mk_da {K : PySem.W.Frag} (H : Hp) (p : Addr) (m : Mk) (e : H p = some (.tup (mkE m))) : DV K H (.ref p) m := DV.pair (DV.int m.1) (DV.opt m.2) e
def needF (ms : List Mk) (fl : Int) : List Mk :=
  match (ms.filter fun m => decide (m.1 ≤ fl)).getLast? with
  | some (t, some v) => (t, some v) :: ms.filter fun m => decide (fl < m.1)
  | _ => ms.filter fun m => decide (fl < m.1)
end SW
namespace SW
open PySem PySem.Spec PyProof.Rows L2
section
variable {P : Program} {w : World} {K : PySem.W.Frag} {mg : Str → Option Value} {base : Heap}
theorem mem_filter_app {α : Type} {ms : List α} {i : Nat} {m : α} (h : ms[i]? = some m) (p : α → Bool) : (ms.take (i + 1)).filter p = (ms.take i).filter p ++ if p m = true then [m] else [] := by
  rw [List.take_add_one, h, List.filter_append]
  show _ ++ List.filter p [m] = _
  rw [List.filter_cons]
  rfl
def sp_needed (K : PySem.W.Frag) : Sp := fun vs H Q _ => ∃ (l : Addr) (xs : List V) (ms : List Mk) (fl : Int) (R : List (List Ce)), vs = [.ref l, .int fl] ∧ Own H (tupsC mkE l xs ms :: R) ∧ ms.length ≤ 100000 ∧
  ∀ H' p ys, Own H' (tupsC mkE p ys (needF ms fl) :: tupsC mkE l xs ms :: R) → Q (.ref p) H'
theorem sc_needed : FnScope ["makes", "floor", "make", "ahead", "later"] ["makes", "floor"] (defScope s_needed) := ⟨rfl, rfl, rfl, by decide +kernel, rfl, by decide +kernel, by decide +kernel⟩
theorem ok_needed (T : Txt K mg) : OkD P w K mg base 1 ("needed", none) ["makes", "floor"] [] (sp_needed K) := by
  refine ok_of T.f_needed sc_needed (fun vs H Q E h => ?_) (fun dV kV doc pm an cdv ct us hl => match us, hl with | [_, _], _ => rfl) (fun cdv A outer s H vs Q E hr h => ?_)
  · obtain ⟨l, xs, ms, fl, R, rfl, _⟩ := h
    rfl
  · obtain ⟨l, xs, ms, fl, R, rfl, O, hz, q⟩ := h
    have hx : areT mkE H xs ms := O.fact 0 1 rfl
    have hxl := areT_len hx
    refine ⟨_, (pss_cons (ps_setLc (i := 3) (own := [("make", 2)]) rfl sc_needed.nd rfl rfl (sw_true rfl rfl rfl (by decide +kernel)) (pi_list (pv 0)) (blkOk_by (own := [("make", 2)]) (N := ["makes", "floor", "make", "ahead", "later"]) (sc := defScope s_needed) (by decide +kernel)) (fun _ _ _ _ _ => (pg_name (i := 2) sc_needed.nd rfl (Or.inl rfl))) (fun _ _ _ _ _ => (pts_one (pt_cmpR op_le (pe_ix (ix_tupK (K := K) rfl) (pv 2) pe_int (fun _ _ => rfl)) (pv 1) (nomark _)))) (fun _ _ _ _ _ => (pv 2)))
      (pss_cons (ps_setLc (i := 4) (own := [("make", 2)]) rfl sc_needed.nd rfl rfl (sw_true rfl rfl rfl (by decide +kernel)) (pi_list (pv 0)) (blkOk_by (own := [("make", 2)]) (N := ["makes", "floor", "make", "ahead", "later"]) (sc := defScope s_needed) (by decide +kernel)) (fun _ _ _ _ _ => (pg_name (i := 2) sc_needed.nd rfl (Or.inl rfl))) (fun _ _ _ _ _ => (pts_one (pt_cmpR op_gt (pe_ix (ix_tupK (K := K) rfl) (pv 2) pe_int (fun _ _ => rfl)) (pv 1) (nomark _)))) (fun _ _ _ _ _ => (pv 2)))
      (pss_cons (ps_if (PW.pt (pw_and (pt_cmpR (op_neD hr.units) (pv 3) (pe_lst pa_nil) (nomark _)) (pw_and1 (pt_cmpR op_notN (pe_ix (ix_tupK (K := K) rfl) (pe_ix (ix_listK (K := K) rfl) (pv 3) (pe_un un_neg pe_int) (fun _ _ => rfl)) pe_int (fun _ _ => rfl)) pe_non (nomark _)))))
      (pss_one (ps_ret (pe_op op_cat (pe_lst (pa_cons (pe_ix (ix_listK (K := K) rfl) (pv 3) (pe_un un_neg pe_int) (fun _ _ => rfl)) pa_nil)) (pv 4))))
      pss_nil)
      (pss_one (ps_ret (pv 4)))))), ?_⟩
    try dsimp only [L2.cxOf]
    leaf_len
    refine ⟨⟨_, SqL.of (O.at 0 0 rfl)⟩, ?_⟩
    regstrif_fact
    rename_i D hD H1 O1
    refine lcL (xs := xs) (fun i H3 => ∃ ws, Own H3 (tupsC mkE D ws ((ms.take i).filter fun m => decide (m.1 ≤ fl)) :: tupsC mkE l xs ms :: R)) ⟨[], (Own.addP O1 (st_areT [] []) True.intro).f1.join⟩ (fun i H3 hi ⟨ws, O4⟩ => SqL.of (O4.at 1 0 rfl)) ?_ ?_
    · rintro i x H3 hx3 ⟨ws, O4⟩
      have h4 : areT mkE H3 xs ms := O4.fact 1 1 rfl
      obtain ⟨m, hm, a, rfl, ha⟩ := areT_getV h4 hx3
      rw [mem_filter_app hm]
      have hwl := areT_len (tups_is O4)
      have hfl := List.length_filter_le (fun m : Mk => decide (m.1 ≤ fl)) (ms.take i)
      rw [List.length_take] at hfl
      leaf_len
      by_cases hc : m.1 ≤ fl
      · rw [decide_eq_true hc, if_pos rfl]
        leaf_len
        refine ⟨small_size (by omega), _, tups_push O4 ⟨a, rfl, ha⟩ rfl⟩
      · rw [decide_eq_false hc]
        exact ⟨ws, by rw [if_neg (by decide), List.append_nil]; exact O4⟩
    · rintro H3 ⟨ws, O4⟩
      have hms : xs.length = ms.length := hxl
      rw [hms, List.take_length] at O4
      clear O O1
      leaf_len
      refine ⟨⟨_, SqL.of (O4.at 1 0 rfl)⟩, ?_⟩
      regstrif_fact
      rename_i E2 hE2 H4 O5
      clear O4
      generalize hahead : (ms.filter fun m => decide (m.1 ≤ fl)) = ahead at *
      refine lcL (xs := xs) (fun i H3 => ∃ us, Own H3 (tupsC mkE E2 us ((ms.take i).filter fun m => decide (fl < m.1)) :: tupsC mkE D ws ahead :: tupsC mkE l xs ms :: R)) ⟨[], tups_nil O5⟩ (fun i H3 hi ⟨us, O6⟩ => SqL.of (O6.at 2 0 rfl)) ?_ ?_
      · rintro i x H5 hx3 ⟨us, O6⟩
        have h4 : areT mkE H5 xs ms := O6.fact 2 1 rfl
        obtain ⟨m, hm, a, rfl, ha⟩ := areT_getV h4 hx3
        rw [mem_filter_app hm]
        have hwl := areT_len (tups_is O6)
        have hfl := List.length_filter_le (fun m : Mk => decide (fl < m.1)) (ms.take i)
        rw [List.length_take] at hfl
        leaf_len
        by_cases hc : fl < m.1
        · rw [decide_eq_true hc, if_pos rfl]
          leaf_len
          refine ⟨small_size (by omega), _, tups_push O6 ⟨a, rfl, ha⟩ rfl⟩
        · rw [decide_eq_false hc]
          exact ⟨us, by rw [if_neg (by decide), List.append_nil]; exact O6⟩
      · rintro H5 ⟨us, O6⟩
        rw [hms, List.take_length] at O6
        leaf_len
        rename_i p0 hp0 H6 O7
        refine neD_of ((areT_da mk_da (O7.fact 2 1 rfl)).list (O7.at 2 0 rfl)) (DA.nil.list (O7.at 0 0 rfl)) (by decide) ?_
        unfold needF at q
        rw [hahead] at q
        have O8 := O7.drop
        clear O6 O7
        cases hla : ahead.getLast? with
        | none =>
          have ha0 : ahead = [] := List.getLast?_eq_none_iff.mp hla
          rw [hla] at q
          leaf_len
          exact q H6 E2 us (O8.f1.drop.f1.f1)
        | some m =>
          have hane : ¬ ahead = [] := fun e => by rw [e] at hla; cases hla
          have h9 : areT mkE H6 ws ahead := O8.fact 1 1 rfl
          obtain ⟨v, hv, a, rfl, ha⟩ : ∃ v, atI ws (-1) = some v ∧ isT mkE H6 v m := by
            have hl := areT_len h9
            have hp : 0 < ahead.length := List.length_pos_iff.mpr hane
            rw [List.getLast?_eq_getElem?] at hla
            obtain ⟨v, hv, h⟩ := areT_get h9 hla
            refine ⟨v, ?_, h⟩
            rw [← hl, ← List.getLast?_eq_getElem?] at hv
            obtain ⟨ys, e⟩ := List.getLast?_eq_some_iff.mp hv
            rw [e]
            exact atI_last ys v
          rw [hla] at q
          obtain ⟨t, o⟩ := m
          have hus := areT_len (tups_is O8.f1.f1)
          have hul := areT_len (show areT mkE H6 us _ from O8.fact 0 1 rfl)
          cases o with
          | none =>
            have e1 : oV ((t, (none : Option Int)) : Mk).2 = V.non := rfl
            leaf_len
            exact q H6 E2 us (O8.f1.drop)
          | some n =>
            have e1 : ¬ oV ((t, some n) : Mk).2 = V.non := fun h => by cases h
            have O9 := O8.addP (st_areT (enc := mkE) [.ref a] [(t, some n)]) ⟨⟨a, rfl, ha⟩, True.intro⟩
            clear O8
            leaf_len
            rename_i p1 hp1 H7 O10
            have hfl := List.length_filter_le (fun m : Mk => decide (fl < m.1)) ms
            have hbig : 100002 ≤ sizeLine := by decide
            refine ⟨by rw [List.length_singleton]; omega, fun p hp => ?_⟩
            generalize hh : upd H7 _ _ = H8
            have O11 := O10.gen hp hh
            have h1 : areT mkE H8 [V.ref a] [(t, some n)] := O11.fact 2 0 rfl
            have h2 : areT mkE H8 us (ms.filter fun m => decide (fl < m.1)) := O11.fact 3 1 rfl
            have O12 := tups_new O11 (areT_app h1 h2)
            exact q H8 p _ O12.drop1.drop1.drop1.drop1
end
end SW
namespace SW
open PySem PySem.Spec PyProof.Rows L2
structure MkA where
  p : Addr
  dx : Addr
  d : Addr
  es : List (Int × Addr)
  rs : List (List V × List Mk)
def mkRow (d : Addr) (r : List V × List Mk) : List Ce := tupsC mkE d r.1 r.2
def makesC (K : PySem.W.Frag) (A : MkA) (mk : List (Int × List Mk)) : List Ce :=
  .m A.p (.ins (He.ga K "Makes") A.dx (flMakes (.ref A.d))) :: .m A.d (.dK (encG V.ref A.es)) :: pu (A.es.map (·.1) = mk.map (·.1) ∧ A.rs.map (·.2) = mk.map (·.2)) :: boxC mkRow (A.es.map (·.2)) A.rs
section
variable {K : PySem.W.Frag} {H : Hp} {R : List (List Ce)} {A : MkA} {mk : List (Int × List Mk)}
theorem makes_split (O : Own H (makesC K A mk :: R)) : Own H ([.m A.p (.ins (He.ga K "Makes") A.dx (flMakes (.ref A.d)))] :: [.m A.d (.dK (encG V.ref A.es))] :: boxC mkRow (A.es.map (·.2)) A.rs :: R) :=
  (Own.splitC (c := pu _) (Own.splitC (Own.splitC O).f1).f1).drop.f1.f2
theorem makes_keys (O : Own H (makesC K A mk :: R)) : A.es.map (·.1) = mk.map (·.1) ∧ A.rs.map (·.2) = mk.map (·.2) := O.fact 0 2 rfl
theorem makes_join (O : Own H ([.m A.p (.ins (He.ga K "Makes") A.dx (flMakes (.ref A.d)))] :: [.m A.d (.dK (encG V.ref A.es))] :: boxC mkRow (A.es.map (·.2)) A.rs :: R)) (h : A.es.map (·.1) = mk.map (·.1) ∧ A.rs.map (·.2) = mk.map (·.2)) : Own H (makesC K A mk :: R) := by
  have O1 := O.addU h
  unfold makesC
  exact O1.perm (by
    simp only [List.flatten_cons, List.cons_append, List.nil_append]
    exact (List.Perm.swap _ _ _).trans (List.Perm.cons _ (List.Perm.swap _ _ _)))
theorem dget_G {β : Type} {g : β → V} {H : Hp} {d : Addr} {l : List (Int × β)} (h : H d = some (.dK (encG g l))) (k : Int) : DGet H d (.int k) ((aget l k).map g) := by
  have e := DGet.k (k := Sum.inl k) h
  rw [valV_encG] at e
  exact e
/-- where a key's makes lie -/
theorem makes_at {k : Int} {ms : List Mk} (O : Own H (makesC K A mk :: R)) (h : aget mk k = some ms) : ∃ (i : Nat) (a : Addr) (vs : List V), A.es[i]? = some (k, a) ∧ mk[i]? = some (k, ms) ∧ A.rs[i]? = some (vs, ms) := by
  obtain ⟨h1, h2⟩ := makes_keys O
  obtain ⟨i, hi⟩ := idx_of h
  obtain ⟨a, ha⟩ := keys_idx h1.symm hi
  have e : (A.rs.map (·.2))[i]? = some ms := by rw [h2, List.getElem?_map, hi]; rfl
  rw [List.getElem?_map] at e
  cases hr : A.rs[i]? with
  | none =>
    rw [hr] at e
    cases e
  | some r =>
    rw [hr] at e
    exact ⟨i, a, r.1, ha, hi, by rw [hr]; exact congrArg some (Prod.ext rfl (Option.some.inj e))⟩
end
section
variable {P : Program} {w : World} {K : PySem.W.Frag} {mg : Str → Option Value} {base : Heap}
def sp_Makes_made (K : PySem.W.Frag) : Sp := fun vs H Q _ => ∃ (A : MkA) (mk : List (Int × List Mk)) (R : List (List Ce)) (k : Int), vs = [.ref A.p, .int k] ∧ Own H (makesC K A mk :: R) ∧ ANd mk ∧
  ∀ H' p ys, Own H' (tupsC mkE p ys ((aget mk k).getD []) :: makesC K A mk :: R) → Q (.ref p) H'
theorem sc_Makes_made : FnScope ["self", "key"] ["self", "key"] (defScope s_Makes_made) := ⟨rfl, rfl, rfl, by decide +kernel, rfl, by decide +kernel, by decide +kernel⟩
theorem ok_Makes_made (T : Txt K mg) : OkD P w K mg base 1 ("Makes", some "made") ["self", "key"] [] (sp_Makes_made K) := by
  refine ok_of T.f_Makes_made sc_Makes_made (fun vs H Q E h => ?_) (fun dV kV doc pm an cdv ct us hl => match us, hl with | [_, _], _ => rfl) (fun cdv A outer s H vs Q E hr h => ?_)
  · obtain ⟨A, mk, R, k, rfl, _⟩ := h
    rfl
  · obtain ⟨A, mk, R, k, rfl, O, hn, q⟩ := h
    refine ⟨_, (pss_one (ps_ret (pe_callTy call_list_of (by rfl) T.free_list (by decide +kernel) (pa_cons (pe_dget2 (hu_of hr) (pe_Makes_by_key T (pv 0)) (pv 1) (pe_lst pa_nil) ⟨rfl, rfl, rfl, rfl⟩) pa_nil)))), ?_⟩
    try dsimp only [L2.cxOf]
    leaf_len
    refine ⟨.inl ⟨_, .inl (O.at 0 1 rfl)⟩, ?_⟩
    obtain ⟨hk1, hk2⟩ := makes_keys O
    cases hg : aget mk k with
    | none =>
      rw [hg] at q
      leaf_len
      rename_i p0 hp0 H1 O1
      have hd := dget_G (O1.at 1 1 rfl) k
      rw [keys_none hk1 hg] at hd
      refine ⟨hd, ?_⟩
      leaf_len
      rename_i p hp H2 O2
      exact q H2 p [] ((tups_nil O2).drop1)
    | some ms =>
      obtain ⟨i, a, xs, h1, h2, h3⟩ := makes_at O hg
      have hnE : ANd A.es := by
        unfold ANd
        rw [hk1]
        exact hn
      rw [hg] at q
      leaf_len
      rename_i p0 hp0 H1 O1
      have hd := dget_G (O1.at 1 1 rfl) k
      rw [idx_get hnE h1] at hd
      refine ⟨hd, ?_⟩
      have ea : (A.es.map (·.2)).getD i 0 = a := by rw [List.getD_eq_getElem?_getD, List.getElem?_map, h1]; rfl
      have O2 : Own H1 (tupsC mkE a xs ms :: _) := ea ▸ box_out (makes_split O1.drop).f2 h3
      have ha : H1 a = some (.lst xs) := O2.at 0 0 rfl
      clear O2
      leaf_len
      rename_i p hp H2 O2
      have O3 : Own H2 (tupsC mkE a xs ms :: _) := ea ▸ box_out (makes_split O2.drop.drop).f2 h3
      exact q H2 p xs ((tups_new O2 (O3.fact 0 1 rfl)).drop1)
theorem set_keys {β : Type} {l : List (Int × β)} {i : Nat} {k : Int} {v w : β} (h : l[i]? = some (k, v)) : (l.set i (k, w)).map (·.1) = l.map (·.1) := by
  rw [List.map_set]
  refine List.ext_getElem? fun j => ?_
  rw [List.getElem?_set]
  split
  · rename_i e
    subst e
    rw [List.getElem?_map, h, if_pos (by rw [List.length_map]; exact (List.getElem?_eq_some_iff.mp h).1)]
    rfl
  · rfl
def mkAdd (mk : List (Int × List Mk)) (k t : Int) (v : Option Int) : List (Int × List Mk) := aput mk k ((aget mk k).getD [] ++ [(t, v)])
def sp_Makes_add (K : PySem.W.Frag) : Sp := fun vs H Q _ => ∃ (A : MkA) (mk : List (Int × List Mk)) (R : List (List Ce)) (k t : Int) (v : Option Int), vs = [.ref A.p, .int k, .int t, oV v] ∧ Own H (makesC K A mk :: R) ∧ ANd mk ∧ mk.length < 100000 ∧ (∀ p ∈ mk, p.2.length < 100000) ∧
  ∀ H' A', A'.p = A.p → Own H' (makesC K A' (mkAdd mk k t v) :: R) → Q .non H'
theorem sc_Makes_add : FnScope ["self", "key", "moment", "value"] ["self", "key", "moment", "value"] (defScope s_Makes_add) := ⟨rfl, rfl, rfl, by decide +kernel, rfl, by decide +kernel, by decide +kernel⟩
theorem ok_Makes_add (T : Txt K mg) : OkD P w K mg base 1 ("Makes", some "add") ["self", "key", "moment", "value"] [] (sp_Makes_add K) := by
  refine ok_of T.f_Makes_add sc_Makes_add (fun vs H Q E h => ?_) (fun dV kV doc pm an cdv ct us hl => match us, hl with | [_, _, _, _], _ => rfl) (fun cdv A outer s H vs Q E hr h => ?_)
  · obtain ⟨A, mk, R, k, t, v, rfl, _⟩ := h
    rfl
  · obtain ⟨A, mk, R, k, t, v, rfl, O, hn, hz, hz2, q⟩ := h
    refine ⟨_, (pss_one (ps_expr (pe_bm PySem.F.plainAttrs_list PySem.F.slot_list_append PySem.F.type_list_append mt_append (pe_dsetd (pe_Makes_by_key T (pv 0)) (pv 1) (pe_lst pa_nil) ⟨rfl, rfl, rfl, rfl⟩) (pa_cons (pe_tup (pa_cons (pv 2) (pa_cons (pv 3) pa_nil))) pa_nil)))), ?_⟩
    try dsimp only [L2.cxOf]
    leaf_len
    refine ⟨.inl ⟨_, .inl (O.at 0 1 rfl)⟩, ?_⟩
    obtain ⟨hk1, hk2⟩ := makes_keys O
    leaf_len
    rename_i p0 hp0 H1 O1
    have hel : A.es.length = mk.length := by
      have e := congrArg List.length hk1
      rw [List.length_map, List.length_map] at e
      exact e
    have hnE : ANd A.es := by
      unfold ANd
      rw [hk1]
      exact hn
    refine ⟨(show V.int k = kV (Sum.inl k : Key) from rfl), by rw [len_encG]; exact small_size (by omega), fun x hx => ?_, fun hx => ?_⟩
    · rw [valV_encG] at hx
      obtain ⟨a, ha, rfl⟩ : ∃ a, aget A.es k = some a ∧ x = .ref a := by
        cases e : aget A.es k with
        | none =>
          rw [e] at hx
          cases hx
        | some a =>
          rw [e] at hx
          exact ⟨a, rfl, (Option.some.inj hx).symm⟩
      obtain ⟨j, hj⟩ := idx_of ha
      obtain ⟨ms, hm⟩ := keys_idx hk1 hj
      have hg := idx_get hn hm
      unfold mkAdd at q
      rw [hg] at q
      obtain ⟨i, a', xs, h1, h2, h3⟩ := makes_at O1.drop hg
      obtain rfl := nd_idx hnE h1 hj
      obtain rfl : a' = a := (Prod.mk.inj (Option.some.inj (h1.symm.trans hj))).2
      have ea : (A.es.map (·.2)).getD i 0 = a' := by rw [List.getD_eq_getElem?_getD, List.getElem?_map, h1]; rfl
      have hm2 : mk[i]? = some (k, ms) := hm
      have hxz : ms.length < 100000 := hz2 _ (List.mem_of_getElem? hm)
      have O2 : Own H1 (tupsC mkE a' xs ms :: boxC mkRow ((A.es.map (·.2)).eraseIdx i) (A.rs.eraseIdx i) :: [.m A.p (.ins (He.ga K "Makes") A.dx (flMakes (.ref A.d)))] :: [.m A.d (.dK (encG V.ref A.es))] :: R) := ea ▸ box_out (makes_split O1.drop).f2 h3
      have hxl := areT_len (tups_is O2)
      leaf_len
      rename_i pt hpt H2 O3
      refine ⟨small_size (by omega), ?_⟩
      generalize hh : upd H2 _ _ = H3
      have O4 := (tups_push (enc := mkE) (a := (t, v)) O3.f1 ⟨pt, rfl, O3.fact 0 0 rfl⟩ hh).drop1
      have hil := (List.getElem?_eq_some_iff.mp h3).1
      have O5 := box_in (f := mkRow) (l := (xs ++ [V.ref pt], ms ++ [(t, v)])) (i := i) O4 (box_len (makes_split O1.drop).f2) hil
      have eds : (A.es.map (·.2)).set i a' = A.es.map (·.2) := by
        refine List.ext_getElem? fun j => ?_
        rw [List.getElem?_set]
        split
        · rename_i e
          subst e
          rw [List.getElem?_map, h1, if_pos (by rw [List.length_map]; exact (List.getElem?_eq_some_iff.mp h1).1)]
          rfl
        · rfl
      rw [eds] at O5
      have O6 := makes_join (A := ⟨A.p, A.dx, A.d, A.es, A.rs.set i (xs ++ [V.ref pt], ms ++ [(t, v)])⟩) (mk := mk.set i (k, ms ++ [(t, v)])) O5.g2 ⟨by rw [set_keys hm]; exact hk1, by rw [List.map_set, List.map_set, hk2]⟩
      refine q H3 ⟨A.p, A.dx, A.d, A.es, A.rs.set i (xs ++ [V.ref pt], ms ++ [(t, v)])⟩ rfl ?_
      rw [idx_put hn hm]
      exact O6
    · rw [valV_encG] at hx
      have hgE : aget A.es k = none := by
        cases e : aget A.es k with
        | none => rfl
        | some a =>
          rw [e] at hx
          cases hx
      have hg := keys_none hk1.symm hgE
      rw [putK_encG, keys_put_new _ _ _ hgE]
      unfold mkAdd at q
      rw [hg, keys_put_new _ _ _ hg] at q
      generalize hh : upd H1 _ _ = H2
      have O2 := (makes_split O1.f1).f1.genS hh
      clear hh
      have O3 := tups_nil (enc := mkE) O2.f3
      clear O2 O1 O
      leaf_len
      rename_i pt hpt H3 O4
      generalize hh : upd H3 _ _ = H4
      have O5 := (tups_push (enc := mkE) (a := (t, v)) O4.f1 ⟨pt, rfl, O4.fact 0 0 rfl⟩ hh).drop1
      have O6 := box_app (f := mkRow) (l := ([V.ref pt], [(t, v)])) (d := p0) O5.f3.f1
      rw [show A.es.map (·.2) ++ [p0] = (A.es ++ [(k, p0)]).map (·.2) by rw [List.map_append]; rfl] at O6
      have O7 := makes_join (A := ⟨A.p, A.dx, A.d, A.es ++ [(k, p0)], A.rs ++ [([V.ref pt], [(t, v)])]⟩) (mk := mk ++ [(k, [(t, v)])]) O6.f1.f2 ⟨by rw [List.map_append, List.map_append, hk1]; rfl, by rw [List.map_append, List.map_append, hk2]; rfl⟩
      exact q H4 ⟨A.p, A.dx, A.d, A.es ++ [(k, p0)], A.rs ++ [([V.ref pt], [(t, v)])]⟩ rfl O7
end
end SW
namespace SW
open PySem PySem.Spec PyProof.Rows L2
/-- what stays of a key -/
def keepF (fl : Int) (p : Int × List Mk) : Option (Int × List Mk) := if needF p.2 fl = [] then none else some (p.1, needF p.2 fl)
def thrF (mk : List (Int × List Mk)) (fl : Int) : List (Int × List Mk) := mk.filterMap (keepF fl)
def goneF (mk : List (Int × List Mk)) (fl : Int) : Int := (mk.map fun p => (p.2.length : Int) - (needF p.2 fl).length).sum
def midF (mk : List (Int × List Mk)) (fl : Int) (i : Nat) : List (Int × List Mk) := thrF (mk.take i) fl ++ mk.drop i
variable {mk : List (Int × List Mk)} {fl k : Int} {ms : List Mk} {i : Nat}
theorem thr_keys (mk : List (Int × List Mk)) (fl : Int) : ((thrF mk fl).map (·.1)).Sublist (mk.map (·.1)) := by
  unfold thrF
  induction mk with
  | nil => exact List.Sublist.refl _
  | cons p mk ih =>
    rw [List.filterMap_cons]
    unfold keepF at *
    split
    · exact List.Sublist.cons _ ih
    · rename_i b hb
      have e : b.1 = p.1 := by
        split at hb
        · cases hb
        · rw [← Option.some.inj hb]
      rw [List.map_cons, List.map_cons, e]
      exact List.Sublist.cons_cons _ ih
theorem mid_nd (n : ANd mk) (fl : Int) (i : Nat) : ANd (midF mk fl i) := by
  unfold ANd midF at *
  refine List.Sublist.nodup ?_ n
  rw [List.map_append]
  conv => rhs; rw [← List.take_append_drop i mk, List.map_append]
  exact (thr_keys _ fl).append (List.Sublist.refl _)
theorem mid_eq (h : mk[i]? = some (k, ms)) : midF mk fl i = thrF (mk.take i) fl ++ (k, ms) :: mk.drop (i + 1) := by
  obtain ⟨hi, e⟩ := List.getElem?_eq_some_iff.mp h
  unfold midF
  rw [List.drop_eq_getElem_cons hi, e]
theorem mid_at (h : mk[i]? = some (k, ms)) : (midF mk fl i)[(thrF (mk.take i) fl).length]? = some (k, ms) := by
  rw [mid_eq h, List.getElem?_append_right (Nat.le_refl _), Nat.sub_self]
  rfl
theorem thr_snoc (h : mk[i]? = some (k, ms)) : thrF (mk.take (i + 1)) fl = thrF (mk.take i) fl ++ (keepF fl (k, ms)).toList := by
  unfold thrF
  rw [List.take_add_one, h, List.filterMap_append]
  congr 1
theorem mid_keep (h : mk[i]? = some (k, ms)) (hk : needF ms fl ≠ []) : (midF mk fl i).set (thrF (mk.take i) fl).length (k, needF ms fl) = midF mk fl (i + 1) := by
  rw [mid_eq h, List.set_append_right _ _ (Nat.le_refl _), Nat.sub_self]
  unfold midF
  rw [thr_snoc h]
  unfold keepF
  rw [if_neg hk, List.append_assoc]
  rfl
theorem mid_drop (h : mk[i]? = some (k, ms)) (hk : needF ms fl = []) (q : Int × List Mk) : ((midF mk fl i).set (thrF (mk.take i) fl).length q).eraseIdx (thrF (mk.take i) fl).length = midF mk fl (i + 1) := by
  rw [mid_eq h, List.set_append_right _ _ (Nat.le_refl _), Nat.sub_self, List.eraseIdx_append_of_length_le (Nat.le_refl _), Nat.sub_self]
  unfold midF
  rw [thr_snoc h]
  unfold keepF
  rw [if_pos hk]
  simp
theorem gone_snoc (h : mk[i]? = some (k, ms)) : goneF (mk.take (i + 1)) fl = goneF (mk.take i) fl + ((ms.length : Int) - (needF ms fl).length) := by
  unfold goneF
  rw [List.take_add_one, h, List.map_append, List.sum_append]
  show _ = _
  simp
theorem mid_zero (mk : List (Int × List Mk)) (fl : Int) : midF mk fl 0 = mk := rfl
theorem mid_last (mk : List (Int × List Mk)) (fl : Int) : midF mk fl mk.length = thrF mk fl := by
  unfold midF
  rw [List.take_length, List.drop_length, List.append_nil]
theorem mid_len (mk : List (Int × List Mk)) (fl : Int) (i : Nat) : (midF mk fl i).length ≤ mk.length := by
  unfold midF thrF
  have h1 := List.length_filterMap_le (keepF fl) (mk.take i)
  rw [List.length_take] at h1
  rw [List.length_append, List.length_drop]
  omega
end SW
namespace SW
open PySem PySem.Spec PyProof.Rows L2
section
variable {K : PySem.W.Frag} {H H' : Hp} {R : List (List Ce)} {A : MkA} {mk : List (Int × List Mk)} {i : Nat} {k : Int} {ms ks : List Mk} {p : Addr} {ys : List V}
theorem makes_len (O : Own H (makesC K A mk :: R)) : A.es.length = mk.length ∧ A.rs.length = mk.length := by
  obtain ⟨h1, h2⟩ := makes_keys O
  have e := congrArg List.length h1
  have e2 := congrArg List.length h2
  rw [List.length_map, List.length_map] at e e2
  exact ⟨e, e2⟩
theorem makes_nd (O : Own H (makesC K A mk :: R)) (n : ANd mk) : ANd A.es := by
  unfold ANd
  rw [(makes_keys O).1]
  exact n
/-- another list for a key -/
theorem makes_put (O : Own H (tupsC mkE p ys ks :: makesC K A mk :: R)) (n : ANd mk) (h : mk[i]? = some (k, ms)) (e : upd H A.d (.dK (putK (encG V.ref A.es) (Sum.inl k : Key) (.ref p))) = H') :
    ∃ A' : MkA, A'.p = A.p ∧ Own H' (makesC K A' (mk.set i (k, ks)) :: R) ∧ aget A'.es k = some p := by
  obtain ⟨h1, h2⟩ := makes_keys O.f1
  obtain ⟨l1, l2⟩ := makes_len O.f1
  obtain ⟨a, ha⟩ := keys_idx h1.symm h
  have hi := (List.getElem?_eq_some_iff.mp h).1
  rw [putK_encG, idx_put (makes_nd O.f1 n) ha] at e
  have O1 := (makes_split O.f1).f1.genS e
  have O2 := box_set (f := mkRow) (l := (ys, ks)) (i := i) (show Own H' (mkRow p (ys, ks) :: boxC mkRow (A.es.map (·.2)) A.rs :: [.m A.d (.dK (encG V.ref (A.es.set i (k, p))))] :: [.m A.p (.ins (He.ga K "Makes") A.dx (flMakes (.ref A.d)))] :: R) from O1.f3.f3.f1) (by omega)
  rw [← List.map_set (f := fun q : Int × Addr => q.2) (a := (k, p))] at O2
  refine ⟨⟨A.p, A.dx, A.d, A.es.set i (k, p), A.rs.set i (ys, ks)⟩, rfl, makes_join O2.f1.f2 ⟨by rw [set_keys ha, set_keys h]; exact h1, by rw [List.map_set, List.map_set, h2]⟩, ?_⟩
  refine idx_get (i := i) ?_ (List.getElem?_set_self (by omega))
  unfold ANd
  rw [set_keys ha]
  exact makes_nd O.f1 n
theorem makes_drop (O : Own H (makesC K A mk :: R)) (n : ANd mk) (h : mk[i]? = some (k, ms)) (e : upd H A.d (.dK (dropK (encG V.ref A.es) (Sum.inl k : Key))) = H') :
    ∃ A' : MkA, A'.p = A.p ∧ Own H' (makesC K A' (mk.eraseIdx i) :: R) := by
  obtain ⟨h1, h2⟩ := makes_keys O
  obtain ⟨l1, l2⟩ := makes_len O
  obtain ⟨a, ha⟩ := keys_idx h1.symm h
  have hi := (List.getElem?_eq_some_iff.mp h).1
  rw [dropK_encG, idx_del (makes_nd O n) ha] at e
  have O1 := (makes_split O).f1.genS e
  have O2 := box_del (i := i) O1.f2 (by omega)
  have em {α β : Type} (g : α → β) (l : List α) : (l.eraseIdx i).map g = (l.map g).eraseIdx i := by
    rw [List.eraseIdx_eq_take_drop_succ, List.eraseIdx_eq_take_drop_succ, List.map_append, List.map_take, List.map_drop]
  rw [← em] at O2
  exact ⟨⟨A.p, A.dx, A.d, A.es.eraseIdx i, A.rs.eraseIdx i⟩, rfl, makes_join O2.f1.f2 ⟨by rw [em, em, h1], by rw [em, em, h2]⟩⟩
/-- a key's makes, taken out and put back -/
theorem makes_out (O : Own H (makesC K A mk :: R)) (n : ANd mk) (h : aget mk k = some ms) : ∃ (a : Addr) (vs : List V) (B C D : List Ce), aget A.es k = some a ∧ DGet H A.d (.int k) (some (.ref a)) ∧ Own H (tupsC mkE a vs ms :: B :: C :: D :: R) ∧
    ∀ H' R', Own H' (tupsC mkE a vs ms :: B :: C :: D :: R') → Own H' (makesC K A mk :: R') := by
  obtain ⟨i, a, vs, h1, h2, h3⟩ := makes_at O h
  have hk := makes_keys O
  have ea : (A.es.map (·.2)).getD i 0 = a := by rw [List.getD_eq_getElem?_getD, List.getElem?_map, h1]; rfl
  have hl := box_len (makes_split O).f2
  have hd := dget_G (O.at 0 1 rfl) k
  rw [idx_get (makes_nd O n) h1] at hd
  have O2 := box_out (makes_split O).f2 h3
  rw [ea] at O2
  refine ⟨a, vs, _, _, _, idx_get (makes_nd O n) h1, hd, O2, fun H' R' O3 => ?_⟩
  have hil := (List.getElem?_eq_some_iff.mp h3).1
  have O4 := box_in (f := mkRow) (d := a) (l := (vs, ms)) (i := i) O3 hl hil
  have eds : (A.es.map (·.2)).set i a = A.es.map (·.2) := by
    have z := List.getElem?_eq_some_iff.mp h1
    obtain ⟨z1, z2⟩ := z
    have z3 : (A.es.map (·.2))[i]'(by rw [List.length_map]; exact z1) = a := by rw [List.getElem_map, z2]
    rw [← z3]
    exact List.set_getElem_self _
  have ers : A.rs.set i (vs, ms) = A.rs := by
    obtain ⟨z1, z2⟩ := List.getElem?_eq_some_iff.mp h3
    rw [← z2]
    exact List.set_getElem_self _
  rw [eds, ers] at O4
  exact makes_join O4.f2.f2 hk
end
end SW
namespace SW
open PySem PySem.Spec PyProof.Rows L2
/-! ### the house in plain Lean -/
inductive Tg where
  | put
  | drop
  | mark
  deriving DecidableEq
def Tg.s : Tg → Str
  | .put => "put"
  | .drop => "drop"
  | .mark => "mark"
structure Row where
  tag : Tg
  args : List Int
  deriving DecidableEq
def rPut (k v : Int) : Row := ⟨.put, [k, v]⟩
def rDrop (k : Int) : Row := ⟨.drop, [k]⟩
def rMark (n : Int) : Row := ⟨.mark, [n]⟩
structure Ho where
  now : Int
  floor : Int
  sl : Sl
  lv : List (List Int)
  mks : List (Int × List Mk)
  rows : List Row
  marked : Int
  hl : List (Int × Int)
def Ho.new : Ho := ⟨0, 0, newSl, [], [], [], 0, []⟩
def Ho.done (s : Ho) (r : Row) (k : Int) (v : Option Int) : Ho := { s with now := s.now + 1, rows := s.rows ++ [r], mks := mkAdd s.mks k (s.now + 1) v }
def Ho.put (s : Ho) (k v : Int) : Ho := ({ s with lv := if (s.sl.look k).isSome = true then s.lv else lvAdd s.lv k, sl := s.sl.put k v } : Ho).done (rPut k v) k (some v)
def Ho.drop (s : Ho) (k : Int) : Ho := ({ s with lv := lvDel s.lv k, sl := s.sl.drop k } : Ho).done (rDrop k) k none
def Ho.mark (s : Ho) : Ho := { s with marked := s.marked + 1, rows := s.rows ++ [rMark (s.marked + 1)] }
def Ho.hold (s : Ho) : Ho := { s with hl := aput s.hl s.now ((aget s.hl s.now).getD 0 + 1) }
def Ho.letGo (s : Ho) (t : Int) : Ho := { s with hl := if (aget s.hl t).getD 0 - 1 = 0 then adel s.hl t else aput s.hl t ((aget s.hl t).getD 0 - 1) }
def heldF (hl : List (Int × Int)) : List Int := (hl.map (·.1)).foldr insS []
def Ho.sweep (s : Ho) : Ho := { s with floor := minF (heldF s.hl) s.now, mks := thrF s.mks (minF (heldF s.hl) s.now) }
/-- a house that stands, after at most n deeds -/
structure HoOk (s : Ho) (n : Nat) : Prop where
  sl : s.sl.Ok
  lv : LvOk s.lv
  same : ∀ k, k ∈ s.lv.flatten ↔ (s.sl.look k).isSome = true
  mks : ANd s.mks
  hl : ANd s.hl
  n1 : s.sl.number ≤ n
  n2 : s.lv.flatten.length ≤ n
  n3 : s.mks.length ≤ n
  n4 : ∀ p ∈ s.mks, p.2.length ≤ n
  n5 : s.rows.length ≤ n
  n6 : s.hl.length ≤ n
/-! ### association lists -/
section
variable {β : Type} {l : List (Int × β)} {k : Int} {v : β}
theorem put_nd (n : ANd l) : ANd (aput l k v) := and_put n k v
theorem put_len (l : List (Int × β)) (k : Int) (v : β) : (aput l k v).length ≤ l.length + 1 := by
  rw [len_put]
  split <;> omega
theorem del_le (l : List (Int × β)) (k : Int) : (adel l k).length ≤ l.length := List.length_filter_le _ _
theorem aget_none_of (h : k ∉ l.map (·.1)) : aget l k = none := by
  cases e : aget l k with
  | none => rfl
  | some v => exact absurd (List.mem_map_of_mem (f := (·.1)) (aget_mem e)) h
end
section
variable {s : Ho} {n : Nat} {k v : Int} {r : Row}
theorem HoOk.mono (h : HoOk s n) {m : Nat} (hm : n ≤ m) : HoOk s m :=
  ⟨h.sl, h.lv, h.same, h.mks, h.hl, Nat.le_trans h.n1 hm, Nat.le_trans h.n2 hm, Nat.le_trans h.n3 hm, fun p hp => Nat.le_trans (h.n4 p hp) hm, Nat.le_trans h.n5 hm, Nat.le_trans h.n6 hm⟩
theorem HoOk.lvz (h : HoOk s n) : s.lv.length ≤ n := Nat.le_trans (lv_len h.lv) h.n2
theorem new_ok : HoOk Ho.new 0 :=
  ⟨newSl_ok, lvNil_ok, fun k => by
    show k ∈ ([] : List (List Int)).flatten ↔ (newSl.look k).isSome = true
    rw [newSl_look]
    simp, List.nodup_nil, List.nodup_nil, Nat.le_refl 0, Nat.le_refl 0, Nat.le_refl 0, fun _ h => (by cases h), Nat.le_refl 0, Nat.le_refl 0⟩
theorem HoOk.done (h : HoOk s n) {o : Option Int} : HoOk (s.done r k o) (n + 1) := by
  refine ⟨h.sl, h.lv, h.same, put_nd h.mks, h.hl, Nat.le_succ_of_le h.n1, Nat.le_succ_of_le h.n2, Nat.le_trans (put_len _ _ _) (Nat.succ_le_succ h.n3), fun p hp => ?_, ?_, Nat.le_succ_of_le h.n6⟩
  · rcases mem_put hp with e | e
    · rw [e]
      show ((aget s.mks k).getD [] ++ [(s.now + 1, o)]).length ≤ n + 1
      rw [List.length_append]
      cases hg : aget s.mks k with
      | none => simp
      | some ms =>
        have := h.n4 _ (aget_mem hg)
        simpa using this
    · exact Nat.le_succ_of_le (h.n4 p e)
  · show (s.rows ++ [r]).length ≤ n + 1
    rw [List.length_append]
    exact Nat.succ_le_succ h.n5
theorem HoOk.put (h : HoOk s n) (hk : 0 ≤ k) : HoOk (s.put k v) (n + 1) := by
  have hl := sput_look h.sl hk (v := v)
  have hflat : ∀ j, j ∈ (if (s.sl.look k).isSome = true then s.lv else lvAdd s.lv k).flatten ↔ ((s.sl.put k v).look j).isSome = true := by
    intro j
    rw [hl]
    split
    · rename_i hs
      rw [h.same]
      by_cases e : j = k
      · rw [if_pos e, e, hs]
        simp
      · rw [if_neg e]
    · rw [lvAdd_flat h.lv, mem_insS, h.same]
      by_cases e : j = k
      · simp [e]
      · rw [if_neg e]
        simp [e]
  have hlv : LvOk (if (s.sl.look k).isSome = true then s.lv else lvAdd s.lv k) := by
    split
    · exact h.lv
    · rename_i hs
      exact lvAdd_ok h.lv fun hm => hs ((h.same k).mp hm)
  have hn : (if (s.sl.look k).isSome = true then s.lv else lvAdd s.lv k).flatten.length ≤ n + 1 := by
    split
    · exact Nat.le_succ_of_le h.n2
    · rw [lvAdd_flat h.lv, len_insS]
      exact Nat.succ_le_succ h.n2
  have h1 := h.done (r := rPut k v) (k := k) (o := some v)
  refine ⟨sput_ok h.sl hk, hlv, hflat, h1.mks, h1.hl, ?_, hn, h1.n3, h1.n4, h1.n5, h1.n6⟩
  show (s.sl.put k v).number ≤ n + 1
  rw [sput_number h.sl]
  have := h.n1
  split <;> omega
theorem HoOk.drop (h : HoOk s n) (hk : 0 ≤ k) (hh : (s.sl.look k).isSome = true) : HoOk (s.drop k) (n + 1) := by
  have hl := sdrop_look h.sl hk hh
  have hm := (h.same k).mpr hh
  have h1 := h.done (r := rDrop k) (k := k) (o := none)
  refine ⟨sdrop_ok h.sl hk hh, lvDel_ok h.lv hm, fun j => ?_, h1.mks, h1.hl, ?_, ?_, h1.n3, h1.n4, h1.n5, h1.n6⟩
  · show j ∈ (lvDel s.lv k).flatten ↔ ((s.sl.drop k).look j).isSome = true
    rw [lvDel_flat h.lv hm, hl, List.mem_filter, h.same]
    by_cases e : j = k
    · simp [e]
    · simp [e]
  · show (s.sl.drop k).number ≤ n + 1
    rw [sdrop_number]
    have := h.n1
    omega
  · show (lvDel s.lv k).flatten.length ≤ n + 1
    rw [lvDel_flat h.lv hm]
    exact Nat.le_trans (List.length_filter_le _ _) (Nat.le_succ_of_le h.n2)
theorem HoOk.mark (h : HoOk s n) : HoOk s.mark (n + 1) :=
  ⟨h.sl, h.lv, h.same, h.mks, h.hl, Nat.le_succ_of_le h.n1, Nat.le_succ_of_le h.n2, Nat.le_succ_of_le h.n3, fun p hp => Nat.le_succ_of_le (h.n4 p hp), by
    show (s.rows ++ [_]).length ≤ n + 1
    rw [List.length_append]
    exact Nat.succ_le_succ h.n5, Nat.le_succ_of_le h.n6⟩
theorem HoOk.hold (h : HoOk s n) : HoOk s.hold (n + 1) :=
  ⟨h.sl, h.lv, h.same, h.mks, put_nd h.hl, Nat.le_succ_of_le h.n1, Nat.le_succ_of_le h.n2, Nat.le_succ_of_le h.n3, fun p hp => Nat.le_succ_of_le (h.n4 p hp), Nat.le_succ_of_le h.n5, Nat.le_trans (put_len _ _ _) (Nat.succ_le_succ h.n6)⟩
theorem HoOk.letGo (h : HoOk s n) (hg : (aget s.hl k).isSome = true) : HoOk (s.letGo k) (n + 1) := by
  have a : ANd (s.letGo k).hl := by
    unfold Ho.letGo
    dsimp only
    split
    · exact and_del h.hl k
    · exact put_nd h.hl
  have b : (s.letGo k).hl.length ≤ n + 1 := by
    unfold Ho.letGo
    dsimp only
    split
    · exact Nat.le_succ_of_le (Nat.le_trans (del_le _ _) h.n6)
    · exact Nat.le_trans (put_len _ _ _) (Nat.succ_le_succ h.n6)
  exact ⟨h.sl, h.lv, h.same, h.mks, a, Nat.le_succ_of_le h.n1, Nat.le_succ_of_le h.n2, Nat.le_succ_of_le h.n3, fun p hp => Nat.le_succ_of_le (h.n4 p hp), Nat.le_succ_of_le h.n5, b⟩
/-! ### what is needed of a row of makes -/
variable {ms : List Mk} {fl : Int} {mk : List (Int × List Mk)}
theorem asc_split {fl : Int} : ∀ {ms : List Mk}, (ms.map (·.1)).Pairwise (· < ·) → ms = (ms.filter fun m => decide (m.1 ≤ fl)) ++ ms.filter fun m => decide (fl < m.1)
  | [], _ => rfl
  | m :: ms, h => by
    rw [List.map_cons, List.pairwise_cons] at h
    have ih := asc_split (fl := fl) h.2
    by_cases c : m.1 ≤ fl
    · rw [List.filter_cons, if_pos (decide_eq_true c), List.filter_cons, if_neg (by simpa using c), List.cons_append, ← ih]
    · have e : (ms.filter fun m => decide (m.1 ≤ fl)) = [] := List.filter_eq_nil_iff.mpr fun x hx => by
        have := h.1 x.1 (List.mem_map_of_mem (f := (·.1)) hx)
        simp
        omega
      rw [e, List.nil_append] at ih
      rw [List.filter_cons, if_neg (by simpa using c), e, List.nil_append, List.filter_cons, if_pos (by simp; omega), ← ih]
theorem need_sub (h : (ms.map (·.1)).Pairwise (· < ·)) : (needF ms fl).Sublist ms := by
  conv => rhs; rw [asc_split (fl := fl) h]
  unfold needF
  split
  · rename_i t v e
    obtain ⟨ys, e2⟩ := List.getLast?_eq_some_iff.mp e
    rw [e2, List.append_assoc]
    exact List.sublist_append_right _ _
  · exact List.sublist_append_right _ _
def lastF (ms : List Mk) : Option Int := ms.getLast?.bind (·.2)
theorem need_last (h : (ms.map (·.1)).Pairwise (· < ·)) : lastF (needF ms fl) = lastF ms := by
  have e := asc_split (fl := fl) h
  unfold lastF
  conv => rhs; rw [e]
  unfold needF
  generalize (ms.filter fun m => decide (m.1 ≤ fl)) = old
  generalize (ms.filter fun m => decide (fl < m.1)) = late
  rw [List.getLast?_append]
  cases hl : late.getLast? with
  | some m =>
    split
    · rename_i t v _
      have : ((t, some v) :: late) = [(t, some v)] ++ late := rfl
      rw [this, List.getLast?_append, hl]
      rfl
    · rw [hl]
      rfl
  | none =>
    have hn : late = [] := List.getLast?_eq_none_iff.mp hl
    subst hn
    split
    · rename_i t v e
      rw [e]
      rfl
    · rename_i e
      cases ho : old.getLast? with
      | none => rfl
      | some m =>
        obtain ⟨t, o⟩ := m
        cases o with
        | none => rfl
        | some v => exact absurd ho (e t v)
theorem need_nil (fl : Int) : needF [] fl = [] := rfl
theorem thr_get (n : ANd mk) : (aget (thrF mk fl) k).getD [] = needF ((aget mk k).getD []) fl := by
  induction mk with
  | nil => rfl
  | cons p mk ih =>
    have n1 := List.nodup_cons.mp n
    have ih := ih n1.2
    unfold thrF at *
    rw [List.filterMap_cons, aget_cons]
    by_cases e : p.1 = k
    · rw [if_pos e]
      have hk : aget (mk.filterMap (keepF fl)) k = none := aget_none_of fun hm => n1.1 (by
        have z := (thr_keys mk fl).subset hm
        rw [← e] at z
        exact z)
      cases hb : keepF fl p with
      | none =>
        unfold keepF at hb
        split at hb
        · rename_i c
          show (aget (mk.filterMap (keepF fl)) k).getD [] = _
          rw [hk]
          exact c.symm
        · cases hb
      | some b =>
        unfold keepF at hb
        split at hb
        · cases hb
        · show (aget (b :: mk.filterMap (keepF fl)) k).getD [] = _
          rw [← Option.some.inj hb, aget_cons, if_pos e]
          rfl
    · rw [if_neg e, ← ih]
      split
      · rfl
      · rename_i b hb
        have e2 : b.1 = p.1 := by
          unfold keepF at hb
          split at hb
          · cases hb
          · rw [← Option.some.inj hb]
        rw [aget_cons, if_neg (by rw [e2]; exact e)]
theorem thr_nd (n : ANd mk) : ANd (thrF mk fl) := (thr_keys mk fl).nodup n
theorem need_len (ms : List Mk) (fl : Int) : (needF ms fl).length ≤ ms.length := by
  have h1 : (ms.filter fun m => decide (m.1 ≤ fl)).length + (ms.filter fun m => decide (fl < m.1)).length = ms.length := by
    induction ms with
    | nil => rfl
    | cons m ms ih =>
      by_cases c : m.1 ≤ fl
      · rw [List.filter_cons, if_pos (decide_eq_true c), List.filter_cons, if_neg (by simpa using c), List.length_cons, List.length_cons]
        omega
      · rw [List.filter_cons, if_neg (by simpa using c), List.filter_cons, if_pos (by simp; omega), List.length_cons, List.length_cons]
        omega
  unfold needF
  split
  · rename_i t v e
    obtain ⟨ys, e2⟩ := List.getLast?_eq_some_iff.mp e
    rw [e2, List.length_append] at h1
    simp at h1 ⊢
    omega
  · omega
theorem mem_thr {p : Int × List Mk} (h : p ∈ thrF mk fl) : ∃ ms, (p.1, ms) ∈ mk ∧ p.2 = needF ms fl := by
  obtain ⟨q, hq, e⟩ := List.mem_filterMap.mp h
  unfold keepF at e
  split at e
  · cases e
  · rw [← Option.some.inj e]
    exact ⟨q.2, hq, rfl⟩
theorem HoOk.sweep (h : HoOk s n) : HoOk s.sweep (n + 1) := by
  refine ⟨h.sl, h.lv, h.same, thr_nd h.mks, h.hl, Nat.le_succ_of_le h.n1, Nat.le_succ_of_le h.n2, ?_, fun p hp => ?_, Nat.le_succ_of_le h.n5, Nat.le_succ_of_le h.n6⟩
  · exact Nat.le_trans (List.length_filterMap_le _ _) (Nat.le_succ_of_le h.n3)
  · obtain ⟨ms, hm, e⟩ := mem_thr hp
    rw [e]
    exact Nat.le_trans (need_len _ _) (Nat.le_succ_of_le (h.n4 _ hm))
/-! ### what is held -/
theorem held_asc : ∀ {ks : List Int}, ks.Nodup → (ks.foldr insS []).Pairwise (· < ·) ∧ ∀ k, k ∈ ks.foldr insS [] ↔ k ∈ ks
  | [], _ => ⟨List.Pairwise.nil, fun _ => Iff.rfl⟩
  | x :: ks, h => by
    obtain ⟨h1, h2⟩ := List.nodup_cons.mp h
    obtain ⟨a, b⟩ := held_asc h2
    rw [List.foldr_cons]
    exact ⟨insS_srt a fun hm => h1 ((b x).mp hm), fun k => by rw [mem_insS, b k, List.mem_cons]⟩
theorem asc_eq {xs ys : List Int} (hx : xs.Pairwise (· < ·)) (hy : ys.Pairwise (· < ·)) (h : ∀ k, k ∈ xs ↔ k ∈ ys) : xs = ys := by
  have p : xs.Perm ys := (List.perm_ext_iff_of_nodup (hx.imp fun h => Int.ne_of_lt h) (hy.imp fun h => Int.ne_of_lt h)).mpr h
  exact List.Perm.eq_of_pairwise (le := (· ≤ ·)) (fun _ _ _ _ h1 h2 => Int.le_antisymm h1 h2) (hx.imp fun h => Int.le_of_lt h) (hy.imp fun h => Int.le_of_lt h) p
theorem held_of {hl : List (Int × Int)} (n : ANd hl) {ys : List Int} (hp : ys.Perm (hl.map (·.1))) (hs : ys.Pairwise (· ≤ ·)) : ys = heldF hl := by
  obtain ⟨a, b⟩ := held_asc n
  refine List.Perm.eq_of_pairwise (le := (· ≤ ·)) (fun _ _ _ _ h1 h2 => Int.le_antisymm h1 h2) hs (a.imp fun h => Int.le_of_lt h) (hp.trans ?_)
  exact (List.perm_ext_iff_of_nodup n (a.imp fun h => Int.ne_of_lt h)).mpr fun k => (b k).symm
theorem held_len (hl : List (Int × Int)) : (heldF hl).length = hl.length := by
  unfold heldF
  induction hl with
  | nil => rfl
  | cons p hl ih => rw [List.map_cons, List.foldr_cons, len_insS, ih, List.length_cons]
theorem fold_min (r : List Int) (n : Int) : (r.foldl min n = n ∨ r.foldl min n ∈ r) ∧ r.foldl min n ≤ n ∧ ∀ y ∈ r, r.foldl min n ≤ y := by
  induction r generalizing n with
  | nil => exact ⟨.inl rfl, Int.le_refl _, fun _ h => by cases h⟩
  | cons x r ih =>
    rw [List.foldl_cons]
    obtain ⟨a, b, c⟩ := ih (min n x)
    have h1 : min n x = n ∨ min n x = x := by omega
    refine ⟨?_, by omega, fun y hy => ?_⟩
    · rcases a with a | a
      · rw [a]
        rcases h1 with e | e
        · exact .inl e
        · exact .inr (by rw [e]; exact List.mem_cons_self)
      · exact .inr (List.mem_cons_of_mem _ a)
    · rcases List.mem_cons.mp hy with rfl | hy
      · omega
      · exact c y hy
theorem min_unique {ns : List Int} {d m : Int} (h : ∀ y ∈ ns, y ≤ d) (hm : m = d ∨ m ∈ ns) (hd : m ≤ d) (hl : ∀ y ∈ ns, m ≤ y) : minF ns d = m := by
  unfold minF
  cases ns with
  | nil =>
    rcases hm with e | e
    · exact e.symm
    · cases e
  | cons n r =>
    show r.foldl min n = m
    obtain ⟨a, b, c⟩ := fold_min r n
    have h1 : r.foldl min n ∈ n :: r := by
      rcases a with a | a
      · rw [a]
        exact List.mem_cons_self
      · exact List.mem_cons_of_mem _ a
    have h2 := hl _ h1
    rcases hm with e | e
    · have := h _ h1
      omega
    · rcases List.mem_cons.mp e with e | e
      · omega
      · have := c _ e
        omega
end
end SW
namespace SW
open PySem PySem.Spec PyProof.Rows L2
/-! ### the law's own table beside a house -/
structure Pl where
  now : Int
  floor : Int
  marks : Int
  holds : List Int
  makes : List (List Mk)
  rows : List Row
def Pl.new : Pl := ⟨0, 0, 0, [], List.replicate 8 [], []⟩
def oneIf (o : Option Int) : Nat := if o.isSome = true then 1 else 0
def cnt (f : Int → Option Int) : Nat := oneIf (f 0) + oneIf (f 1) + oneIf (f 2) + oneIf (f 3) + oneIf (f 4) + oneIf (f 5) + oneIf (f 6) + oneIf (f 7)
theorem eight {k : Int} (h0 : 0 ≤ k) (h8 : k < 8) : k = 0 ∨ k = 1 ∨ k = 2 ∨ k = 3 ∨ k = 4 ∨ k = 5 ∨ k = 6 ∨ k = 7 := by omega
theorem oneIf_some (v : Int) : oneIf (some v) = 1 := rfl
theorem oneIf_none : oneIf none = 0 := rfl
theorem cnt_put {f g : Int → Option Int} {k : Int} {o : Option Int} (h0 : 0 ≤ k) (h8 : k < 8) (h : ∀ j, g j = if j = k then o else f j) : cnt g + oneIf (f k) = cnt f + oneIf o := by
  unfold cnt
  simp only [h]
  rcases eight h0 h8 with e | e | e | e | e | e | e | e <;> subst e <;> simp <;> omega
structure Two (pl : Pl) (s : Ho) (n : Nat) : Prop where
  ok : HoOk s n
  now : s.now = pl.now
  floor : s.floor = pl.floor
  marks : s.marked = pl.marks
  rows : s.rows = pl.rows
  len : pl.makes.length = 8
  mks : ∀ k : Nat, k < 8 → (aget s.mks k).getD [] = pl.makes.getD k []
  keys : ∀ p ∈ s.mks, 0 ≤ p.1 ∧ p.1 < 8
  look : ∀ k : Nat, k < 8 → s.sl.look k = lastF (pl.makes.getD k [])
  num : s.sl.number = cnt s.sl.look
  asc : ∀ ms ∈ pl.makes, (ms.map (·.1)).Pairwise (· < ·) ∧ ∀ m ∈ ms, m.1 ≤ pl.now
  hold : ∀ t, (aget s.hl t).getD 0 = pl.holds.count t
  pos : ∀ p ∈ s.hl, 0 < p.2
  le : ∀ t ∈ pl.holds, t ≤ pl.now
  hz : pl.holds.length ≤ n
theorem Two.mono {pl : Pl} {s : Ho} {n m : Nat} (h : Two pl s n) (hm : n ≤ m) : Two pl s m :=
  ⟨h.ok.mono hm, h.now, h.floor, h.marks, h.rows, h.len, h.mks, h.keys, h.look, h.num, h.asc, h.hold, h.pos, h.le, Nat.le_trans h.hz hm⟩
theorem two_new : Two Pl.new Ho.new 0 := by
  refine ⟨new_ok, rfl, rfl, rfl, rfl, rfl, fun k hk => ?_, fun _ h => (by cases h), fun k hk => ?_, ?_, fun ms hm => ?_, fun t => ?_, fun _ h => (by cases h), fun _ h => (by cases h), Nat.le_refl 0⟩
  · show [] = (List.replicate 8 ([] : List Mk)).getD k []
    rw [List.getD_eq_getElem?_getD, List.getElem?_replicate]
    split <;> rfl
  · show newSl.look k = lastF ((List.replicate 8 ([] : List Mk)).getD k [])
    rw [newSl_look, List.getD_eq_getElem?_getD, List.getElem?_replicate]
    split <;> rfl
  · show newSl.number = cnt newSl.look
    unfold cnt
    simp only [newSl_look]
    rfl
  · obtain ⟨_, e⟩ := List.mem_replicate.mp hm
    subst e
    exact ⟨List.Pairwise.nil, fun _ h => (by cases h)⟩
  · show 0 = (([] : List Int).count t : Int)
    rw [List.count_nil]
    rfl
def Pl.change (pl : Pl) (k : Nat) (r : Row) (o : Option Int) : Pl :=
  { pl with now := pl.now + 1, makes := pl.makes.set k (pl.makes.getD k [] ++ [(pl.now + 1, o)]), rows := pl.rows ++ [r] }
section
variable {pl : Pl} {s : Ho} {n : Nat} {k : Nat} {v : Int}
theorem change_get (hk : k < pl.makes.length) (r : Row) (o : Option Int) (j : Nat) : (pl.change k r o).makes.getD j [] = if j = k then pl.makes.getD k [] ++ [(pl.now + 1, o)] else pl.makes.getD j [] := by
  show (pl.makes.set k _).getD j [] = _
  rw [List.getD_eq_getElem?_getD, List.getElem?_set]
  by_cases e : k = j
  · subst e
    rw [if_pos rfl, if_pos hk, if_pos rfl]
    rfl
  · rw [if_neg e, if_neg (fun h => e h.symm), List.getD_eq_getElem?_getD]
theorem last_app (ms : List Mk) (m : Mk) : lastF (ms ++ [m]) = m.2 := by
  unfold lastF
  rw [List.getLast?_append]
  rfl
theorem makes_mem (h : Two pl s n) (hk : k < 8) : pl.makes.getD k [] ∈ pl.makes := by
  rw [List.getD_eq_getElem?_getD, List.getElem?_eq_getElem (by rw [h.len]; exact hk)]
  exact List.getElem_mem _
theorem change_asc (h : Two pl s n) (hk : k < 8) (r : Row) (o : Option Int) : ∀ ms ∈ (pl.change k r o).makes, (ms.map (·.1)).Pairwise (· < ·) ∧ ∀ m ∈ ms, m.1 ≤ pl.now + 1 := by
  intro ms hm
  rcases List.mem_or_eq_of_mem_set hm with hm | e
  · exact ⟨(h.asc ms hm).1, fun m hx => Int.le_add_one ((h.asc ms hm).2 m hx)⟩
  · subst e
    obtain ⟨a, b⟩ := h.asc _ (makes_mem h hk)
    refine ⟨?_, fun m hx => ?_⟩
    · rw [List.map_append, List.pairwise_append]
      refine ⟨a, by simp, fun x hx y hy => ?_⟩
      obtain ⟨m, hm, rfl⟩ := List.mem_map.mp hx
      have := b m hm
      have e : y = pl.now + 1 := by simpa using hy
      omega
    · rcases List.mem_append.mp hx with hx | hx
      · have := b m hx
        omega
      · have e : m = (pl.now + 1, o) := by simpa using hx
        rw [e]
        exact Int.le_refl _
theorem change_mk (h : Two pl s n) (hk : k < 8) (r : Row) (o : Option Int) (j : Nat) (hj : j < 8) : (aget (mkAdd s.mks k (s.now + 1) o) j).getD [] = (pl.change k r o).makes.getD j [] := by
  rw [change_get (by rw [h.len]; exact hk)]
  unfold mkAdd
  rw [aget_put, h.mks k hk, h.now]
  by_cases e : j = k
  · subst e
    rw [if_pos rfl, if_pos rfl]
    rfl
  · rw [if_neg (by omega), if_neg e, h.mks j hj]
theorem change_keys (h : Two pl s n) (hk : k < 8) (o : Option Int) : ∀ p ∈ mkAdd s.mks k (s.now + 1) o, 0 ≤ p.1 ∧ p.1 < 8 := by
  intro p hp
  rcases mem_put hp with e | e
  · rw [e]
    exact ⟨Int.natCast_nonneg k, by show (k : Int) < 8; omega⟩
  · exact h.keys p e
theorem change_le (h : Two pl s n) : ∀ t ∈ pl.holds, t ≤ pl.now + 1 := fun t ht => Int.le_add_one (h.le t ht)
theorem two_put (h : Two pl s n) (hk : k < 8) : Two (pl.change k (rPut k v) (some v)) (s.put k v) (n + 1) := by
  have hk0 : (0 : Int) ≤ k := Int.natCast_nonneg k
  have hl := sput_look h.ok.sl hk0 (v := v)
  refine ⟨h.ok.put hk0, ?_, h.floor, h.marks, ?_, ?_, change_mk h hk _ _, change_keys h hk _, fun j hj => ?_, ?_, change_asc h hk _ _, h.hold, h.pos, change_le h, Nat.le_succ_of_le h.hz⟩
  · show s.now + 1 = pl.now + 1
    rw [h.now]
  · show s.rows ++ _ = pl.rows ++ _
    rw [h.rows]
  · show (pl.makes.set _ _).length = 8
    rw [List.length_set, h.len]
  · show (s.sl.put k v).look j = _
    rw [change_get (by rw [h.len]; exact hk), hl]
    by_cases e : j = k
    · rw [if_pos (by omega), if_pos e, last_app]
    · rw [if_neg (by omega), if_neg e, h.look j hj]
  · show (s.sl.put k v).number = cnt (s.sl.put k v).look
    have c := cnt_put (f := s.sl.look) (g := (s.sl.put k v).look) (o := some v) hk0 (by omega) (fun j => hl j)
    rw [sput_number h.ok.sl, h.num]
    cases e : s.sl.look k with
    | none =>
      rw [e, oneIf_none, oneIf_some] at c
      rw [if_pos rfl]
      omega
    | some w =>
      rw [e, oneIf_some, oneIf_some] at c
      rw [if_neg (by intro z; cases z)]
      omega
theorem two_drop (h : Two pl s n) (hk : k < 8) (hh : lastF (pl.makes.getD k []) ≠ none) : Two (pl.change k (rDrop k) none) (s.drop k) (n + 1) := by
  have hk0 : (0 : Int) ≤ k := Int.natCast_nonneg k
  have hs : (s.sl.look k).isSome = true := by
    rw [h.look k hk]
    cases e : lastF (pl.makes.getD k []) with
    | none => exact absurd e hh
    | some v => rfl
  have hl := sdrop_look h.ok.sl hk0 hs
  refine ⟨h.ok.drop hk0 hs, ?_, h.floor, h.marks, ?_, ?_, change_mk h hk _ _, change_keys h hk _, fun j hj => ?_, ?_, change_asc h hk _ _, h.hold, h.pos, change_le h, Nat.le_succ_of_le h.hz⟩
  · show s.now + 1 = pl.now + 1
    rw [h.now]
  · show s.rows ++ _ = pl.rows ++ _
    rw [h.rows]
  · show (pl.makes.set _ _).length = 8
    rw [List.length_set, h.len]
  · show (s.sl.drop k).look j = _
    rw [change_get (by rw [h.len]; exact hk), hl]
    by_cases e : j = k
    · rw [if_pos (by omega), if_pos e, last_app]
    · rw [if_neg (by omega), if_neg e, h.look j hj]
  · show (s.sl.drop k).number = cnt (s.sl.drop k).look
    have c := cnt_put (f := s.sl.look) (g := (s.sl.drop k).look) (o := none) hk0 (by omega) (fun j => hl j)
    rw [sdrop_number, h.num]
    obtain ⟨w, hw⟩ := Option.isSome_iff_exists.mp hs
    rw [hw, oneIf_none, oneIf_some] at c
    omega
theorem two_mark (h : Two pl s n) : Two { pl with marks := pl.marks + 1, rows := pl.rows ++ [rMark (pl.marks + 1)] } s.mark (n + 1) := by
  refine ⟨h.ok.mark, h.now, h.floor, ?_, ?_, h.len, h.mks, h.keys, h.look, h.num, h.asc, h.hold, h.pos, h.le, Nat.le_succ_of_le h.hz⟩
  · show s.marked + 1 = pl.marks + 1
    rw [h.marks]
  · show s.rows ++ [rMark (s.marked + 1)] = pl.rows ++ _
    rw [h.rows, h.marks]
theorem two_hold (h : Two pl s n) : Two { pl with holds := pl.holds ++ [pl.now] } s.hold (n + 1) := by
  refine ⟨h.ok.hold, h.now, h.floor, h.marks, h.rows, h.len, h.mks, h.keys, h.look, h.num, h.asc, fun t => ?_, fun p hp => ?_, fun t ht => ?_, ?_⟩
  · show (aget (aput s.hl s.now ((aget s.hl s.now).getD 0 + 1)) t).getD 0 = ((pl.holds ++ [pl.now]).count t : Int)
    rw [aget_put, List.count_append, List.count_singleton]
    by_cases e : t = s.now
    · subst e
      rw [if_pos rfl, Option.getD_some, h.hold, h.now]
      simp
    · rw [if_neg e, h.hold, ← h.now]
      have : (s.now == t) = false := by simpa using fun z => e z.symm
      rw [this]
      simp
  · rcases mem_put hp with e | e
    · rw [e]
      show 0 < (aget s.hl s.now).getD 0 + 1
      rw [h.hold]
      omega
    · exact h.pos p e
  · rcases List.mem_append.mp ht with ht | ht
    · exact h.le t ht
    · have e : t = pl.now := by simpa using ht
      rw [e]
      exact Int.le_refl _
  · show (pl.holds ++ [pl.now]).length ≤ n + 1
    rw [List.length_append]
    exact Nat.succ_le_succ h.hz
theorem held_iff (h : Two pl s n) (t : Int) : (aget s.hl t).isSome = true ↔ t ∈ pl.holds := by
  have e := h.hold t
  rw [← List.count_pos_iff]
  cases hg : aget s.hl t with
  | none =>
    rw [hg] at e
    have : pl.holds.count t = 0 := by
      have e : (0 : Int) = pl.holds.count t := e
      omega
    rw [this]
    simp
  | some c =>
    rw [hg] at e
    have e : c = pl.holds.count t := e
    have hc : 0 < c := h.pos _ (aget_mem hg)
    have : 0 < pl.holds.count t := by omega
    simp [this]
theorem erase_count {xs : List Int} {i : Nat} {t : Int} (hi : xs[i]? = some t) (u : Int) : (xs.eraseIdx i).count u + (if u = t then 1 else 0) = xs.count u := by
  induction xs generalizing i with
  | nil => cases hi
  | cons x xs ih =>
    cases i with
    | zero =>
      have e : x = t := Option.some.inj hi
      subst e
      rw [List.eraseIdx_cons_zero, List.count_cons]
      by_cases c : u = x
      · simp [c]
      · rw [if_neg c, if_neg (by simpa using fun z : x = u => c z.symm)]
    | succ i =>
      rw [List.eraseIdx_cons_succ, List.count_cons, List.count_cons, ← ih (i := i) hi]
      omega
theorem two_letGo (h : Two pl s n) {i : Nat} {t : Int} (hi : pl.holds[i]? = some t) : Two { pl with holds := pl.holds.eraseIdx i } (s.letGo t) (n + 1) := by
  have hm : t ∈ pl.holds := List.mem_of_getElem? hi
  have hs := (held_iff h t).mpr hm
  have hc := fun u => erase_count hi u
  refine ⟨h.ok.letGo hs, h.now, h.floor, h.marks, h.rows, h.len, h.mks, h.keys, h.look, h.num, h.asc, fun u => ?_, fun p hp => ?_, fun u hu => h.le u (List.mem_of_mem_eraseIdx hu), ?_⟩
  · show (aget (if (aget s.hl t).getD 0 - 1 = 0 then adel s.hl t else aput s.hl t ((aget s.hl t).getD 0 - 1)) u).getD 0 = ((pl.holds.eraseIdx i).count u : Int)
    have h1 := h.hold t
    have h2 := h.hold u
    have h3 := hc u
    have h4 := hc t
    rw [if_pos rfl] at h4
    split
    · rename_i z
      rw [aget_del]
      by_cases e : u = t
      · subst e
        rw [if_pos rfl]
        show (0 : Int) = _
        omega
      · rw [if_neg e] at h3 ⊢
        omega
    · rw [aget_put]
      by_cases e : u = t
      · subst e
        rw [if_pos rfl]
        show (aget s.hl u).getD 0 - 1 = _
        omega
      · rw [if_neg e] at h3 ⊢
        omega
  · have hp : p ∈ (if (aget s.hl t).getD 0 - 1 = 0 then adel s.hl t else aput s.hl t ((aget s.hl t).getD 0 - 1)) := hp
    split at hp
    · exact h.pos p (mem_del hp).1
    · rename_i z
      rcases mem_put hp with e | e
      · rw [e]
        show 0 < (aget s.hl t).getD 0 - 1
        have h1 := h.hold t
        have h4 := hc t
        rw [if_pos rfl] at h4
        omega
      · exact h.pos p e
  · show (pl.holds.eraseIdx i).length ≤ n + 1
    have := List.length_eraseIdx_le pl.holds i
    have := h.hz
    omega
/-! ### throwing away -/
def lessF (fl : Int) (ms : List Mk) : Int := (ms.length : Int) - (needF ms fl).length
def sum8 (g : Int → Int) : Int := g 0 + g 1 + g 2 + g 3 + g 4 + g 5 + g 6 + g 7
theorem gone_eq {mk : List (Int × List Mk)} {fl : Int} (nd : ANd mk) (h : ∀ p ∈ mk, 0 ≤ p.1 ∧ p.1 < 8) : goneF mk fl = sum8 fun j => lessF fl ((aget mk j).getD []) := by
  induction mk with
  | nil => rfl
  | cons p mk ih =>
    have n1 := List.nodup_cons.mp nd
    have ih := ih n1.2 fun q hq => h q (List.mem_cons_of_mem _ hq)
    obtain ⟨h0, h8⟩ := h p List.mem_cons_self
    have hk : aget mk p.1 = none := aget_none_of n1.1
    have e0 : goneF (p :: mk) fl = lessF fl p.2 + goneF mk fl := by
      unfold goneF lessF
      rw [List.map_cons, List.sum_cons]
    rw [e0, ih]
    have hz : lessF fl [] = 0 := rfl
    simp only [aget_cons]
    unfold sum8
    have e1 : ∀ j : Int, lessF fl ((if p.1 = j then some p.2 else aget mk j).getD []) = if p.1 = j then lessF fl p.2 else lessF fl ((aget mk j).getD []) := fun j => by split <;> rfl
    have e2 : lessF fl ((aget mk p.1).getD []) = 0 := by rw [hk]; rfl
    simp only [e1]
    generalize p.1 = k at *
    rcases eight h0 h8 with e | e | e | e | e | e | e | e <;> subst e <;> simp [e2] <;> omega
def Pl.swept (pl : Pl) (f : Int) : Pl := { pl with floor := f, makes := pl.makes.map fun ms => needF ms f }
theorem two_sweep (h : Two pl s n) {f : Int} (hf : f = minF (heldF s.hl) s.now) : Two (pl.swept f) s.sweep (n + 1) := by
  subst hf
  have hg : ∀ (j : Nat), (pl.makes.map fun ms => needF ms (minF (heldF s.hl) s.now)).getD j [] = needF (pl.makes.getD j []) (minF (heldF s.hl) s.now) := fun j => by
    rw [List.getD_eq_getElem?_getD, List.getElem?_map, List.getD_eq_getElem?_getD]
    cases pl.makes[j]? <;> rfl
  refine ⟨h.ok.sweep, h.now, rfl, h.marks, h.rows, ?_, fun j hj => ?_, fun p hp => ?_, fun j hj => ?_, h.num, fun ms hm => ?_, h.hold, h.pos, h.le, Nat.le_succ_of_le h.hz⟩
  · show (pl.makes.map _).length = 8
    rw [List.length_map, h.len]
  · show (aget (thrF s.mks _) j).getD [] = (pl.makes.map _).getD j []
    rw [hg, thr_get h.ok.mks, h.mks j hj]
  · obtain ⟨ms, hm, _⟩ := mem_thr (show p ∈ thrF s.mks (minF (heldF s.hl) s.now) from hp)
    exact (h.keys (p.1, ms) hm : 0 ≤ (p.1, ms).1 ∧ (p.1, ms).1 < 8)
  · show s.sl.look j = lastF ((pl.makes.map _).getD j [])
    rw [hg, need_last (h.asc _ (makes_mem h hj)).1, h.look j hj]
  · obtain ⟨l, hl, rfl⟩ := List.mem_map.mp hm
    obtain ⟨a, b⟩ := h.asc l hl
    have sub := need_sub (fl := minF (heldF s.hl) s.now) a
    exact ⟨a.sublist (sub.map (·.1)), fun m hx => b m (sub.subset hx)⟩
/-- what the law counts as gone -/
theorem two_gone (h : Two pl s n) (f : Int) : goneF s.mks f = (pl.makes.map (lessF f)).sum := by
  rw [gone_eq h.ok.mks h.keys]
  have e : ∀ j : Nat, j < 8 → (aget s.mks j).getD [] = pl.makes.getD j [] := h.mks
  have hl := h.len
  generalize pl.makes = ms at *
  match ms, hl with
  | [a, b, c, d, e1, f1, g1, h1], _ =>
    have q0 := e 0 (by omega)
    have q1 := e 1 (by omega)
    have q2 := e 2 (by omega)
    have q3 := e 3 (by omega)
    have q4 := e 4 (by omega)
    have q5 := e 5 (by omega)
    have q6 := e 6 (by omega)
    have q7 := e 7 (by omega)
    simp at q0 q1 q2 q3 q4 q5 q6 q7
    unfold sum8
    dsimp only
    rw [q0, q1, q2, q3, q4, q5, q6, q7]
    simp
    omega
/-- the floor that the law reckons -/
theorem two_floor (h : Two pl s n) {m : Int} (hm : m ∈ pl.holds ++ [pl.now]) (hl : ∀ y ∈ pl.holds ++ [pl.now], m ≤ y) : m = minF (heldF s.hl) s.now := by
  have hh : ∀ t, t ∈ heldF s.hl ↔ t ∈ pl.holds := fun t => by
    rw [← held_iff h t]
    unfold heldF
    rw [(held_asc h.ok.hl).2 t]
    constructor
    · intro z
      obtain ⟨p, hp, rfl⟩ := List.mem_map.mp z
      exact mem_aget (v := p.2) hp
    · intro z
      obtain ⟨c, hc⟩ := Option.isSome_iff_exists.mp z
      exact List.mem_map_of_mem (f := (·.1)) (aget_mem hc)
  refine (min_unique (fun y hy => ?_) ?_ ?_ fun y hy => ?_).symm
  · rw [h.now]
    exact h.le y ((hh y).mp hy)
  · rcases List.mem_append.mp hm with z | z
    · exact .inr ((hh m).mpr z)
    · exact .inl (by rw [h.now]; simpa using z)
  · rw [h.now]
    exact hl _ (List.mem_append_right _ (List.mem_singleton.mpr rfl))
  · exact hl y (List.mem_append_left _ ((hh y).mp hy))
/-- sorted(set(holds)) -/
theorem two_held (h : Two pl s n) {ns : List Int} (hs : ns.Pairwise (· < ·)) (hm : ∀ k, k ∈ ns ↔ k ∈ pl.holds) : heldF s.hl = ns := by
  refine asc_eq (held_asc h.ok.hl).1 hs fun t => ?_
  rw [hm, ← held_iff h t]
  show t ∈ heldF s.hl ↔ _
  unfold heldF
  rw [(held_asc h.ok.hl).2 t]
  constructor
  · intro z
    obtain ⟨p, hp, rfl⟩ := List.mem_map.mp z
    exact mem_aget (v := p.2) hp
  · intro z
    obtain ⟨c, hc⟩ := Option.isSome_iff_exists.mp z
    exact List.mem_map_of_mem (f := (·.1)) (aget_mem hc)
end
end SW
namespace SW
open PySem PySem.Spec PyProof.Rows L2
section
variable {P : Program} {w : World} {K : PySem.W.Frag} {mg : Str → Option Value} {base : Heap}
def sp_Makes_thrown (K : PySem.W.Frag) : Sp := fun vs H Q _ => ∃ (A : MkA) (mk : List (Int × List Mk)) (R : List (List Ce)) (fl : Int), vs = [.ref A.p, .int fl] ∧ Own H (makesC K A mk :: R) ∧ ANd mk ∧ mk.length < 100000 ∧ (∀ p ∈ mk, p.2.length < 100000) ∧
  ∀ H' A', A'.p = A.p → Own H' (makesC K A' (thrF mk fl) :: R) → Q (.int (goneF mk fl)) H'
theorem sc_Makes_thrown : FnScope ["self", "floor", "gone", "key", "kept"] ["self", "floor"] (defScope s_Makes_thrown) := ⟨rfl, rfl, rfl, by decide +kernel, rfl, by decide +kernel, by decide +kernel⟩
theorem ok_Makes_thrown (T : Txt K mg) : OkD P w K mg base 2 ("Makes", some "thrown") ["self", "floor"] [] (sp_Makes_thrown K) := by
  refine ok_of T.f_Makes_thrown sc_Makes_thrown (fun vs H Q E h => ?_) (fun dV kV doc pm an cdv ct us hl => match us, hl with | [_, _], _ => rfl) (fun cdv A outer s H vs Q E hr h => ?_)
  · obtain ⟨A, mk, R, fl, rfl, _⟩ := h
    rfl
  · obtain ⟨A, mk, R, fl, rfl, O, hn, hz, hz2, q⟩ := h
    obtain ⟨hk1, hk2⟩ := makes_keys O
    have hel := (makes_len O).1
    refine ⟨_, (pss_cons (ps_set (i := 2) sc_Makes_thrown.nd rfl (Or.inl rfl) pe_int)
      (pss_cons (ps_for (passes_of rfl) rfl (pi_list (pe_callTy (call_list_dK rfl) (by rfl) T.free_list (by decide +kernel) (pa_cons (pe_Makes_by_key T (pv 0)) pa_nil))) (pg_name (i := 3) sc_Makes_thrown.nd rfl (Or.inl rfl))
      (pss_cons (ps_set (i := 4) sc_Makes_thrown.nd rfl (Or.inl rfl) (pe_D (ok_needed (K := K) T) T.glo_needed hr (pa_cons (pe_dget (hu_of hr) (pe_Makes_by_key T (pv 0)) (pv 3) (fun _ _ => rfl)) (pa_cons (pv 1) pa_nil))))
      (pss_cons (ps_set (i := 2) sc_Makes_thrown.nd rfl (Or.inl rfl) (pe_op op_sub (pe_op op_add (pv 2) (pe_callB call_len_seq (by rfl) T.free_len (by decide +kernel) (pa_cons (pe_dget (hu_of hr) (pe_Makes_by_key T (pv 0)) (pv 3) (fun _ _ => rfl)) pa_nil))) (pe_callB call_len_seq (by rfl) T.free_len (by decide +kernel) (pa_cons (pv 4) pa_nil))))
      (pss_cons (ps_dput (hu_of hr) (pe_Makes_by_key T (pv 0)) (pv 3) (pv 4) rfl)
      (pss_one (ps_if (pt_cmpR (op_eqD hr.units) (pv 4) (pe_lst pa_nil) (nomark _))
      (pss_one (ps_expr (pe_dpop1 (pe_Makes_by_key T (pv 0)) (pv 3) ⟨rfl, rfl, rfl, rfl⟩)))
      pss_nil))))))
      (pss_one (ps_ret (pv 2))))), ?_⟩
    try dsimp only [L2.cxOf]
    leaf_len
    rename_i p0 hp0 H1 O1
    refine ⟨⟨_, SqL.of (O1.at 0 0 rfl)⟩, ?_⟩
    have hxs : ((encG V.ref A.es).map fun kv => kV kv.1) = mk.map fun p => V.int p.1 := by
      have e : ((encG V.ref A.es).map fun kv => kV kv.1) = (A.es.map (·.1)).map V.int := by
        unfold encG
        rw [List.map_map, List.map_map]
        rfl
      rw [e, hk1, List.map_map]
      rfl
    rw [hxs] at O1
    refine forL (xs := mk.map fun p => V.int p.1) (fun i σ H2 => Stp (∃ a b A', A'.p = A.p ∧ σ = [some (V.ref A.p), some (V.int fl), some (V.int (goneF (mk.take i) fl)), a, b] ∧ Own H2 ([.m p0 (.lst (mk.map fun p => V.int p.1))] :: makesC K A' (midF mk fl i) :: R)))
      ⟨none, none, A, rfl, rfl, O1⟩ (fun i σ H2 ⟨_, _, _, _, _, O2⟩ => SqL.of (O2.at 0 0 rfl)) ?_ ?_
    · rintro i x σ H2 hx ⟨a0, b0, A2, e2, rfl, O2⟩
      obtain ⟨k, ms, hm, rfl⟩ : ∃ k ms, mk[i]? = some (k, ms) ∧ x = .int k := by
        rw [List.getElem?_map] at hx
        cases e : mk[i]? with
        | none =>
          rw [e] at hx
          cases hx
        | some p =>
          rw [e] at hx
          exact ⟨p.1, p.2, rfl, (Option.some.inj hx).symm⟩
      have hnm := mid_nd hn fl i
      have hmid := mid_at (fl := fl) hm
      have hg := idx_get hnm hmid
      have hmz : ms.length < 100000 := hz2 _ (List.mem_of_getElem? hm)
      rw [gone_snoc hm]
      have hml := mid_len mk fl i
      have hkeep := mid_keep (fl := fl) hm
      have hdrop := mid_drop (fl := fl) hm
      generalize midF mk fl (i + 1) = mid2 at *
      generalize midF mk fl i = mid at *
      generalize (thrF (mk.take i) fl).length = j at *
      generalize goneF (mk.take i) fl = gone at *
      rw [← e2]
      obtain ⟨a, vs, B, C, D, hga, hd, mo⟩ := makes_out O2.f1 hnm hg
      leaf_len
      refine ⟨mo.1, by omega, ?_⟩
      intro H3 p3 ys O4
      have O5 := mo.2 H3 _ O4.g4
      clear mo hd
      have hyl := areT_len (tups_is O5.f1)
      have hnl := need_len ms fl
      clear O2 O4
      obtain ⟨a, vs, B, C, D, hga, hd, mo⟩ := makes_out O5 hnm hg
      have ha : H3 a = some (.lst vs) := mo.1.at 0 0 rfl
      have hal := areT_len (tups_is mo.1)
      leaf_len
      have hel2 := (makes_len O5).1
      refine ⟨.inl ⟨_, .inl k, O5.at 0 1 rfl, rfl, by rw [len_encG]; exact small_size (by omega), rfl⟩, ?_⟩
      clear mo ha hd
      generalize hh : upd H3 _ _ = H4
      obtain ⟨A3, e3, O6, hg3⟩ := makes_put O5.f1 hnm hmid hh
      clear O5
      rw [← e3]
      leaf_len
      rename_i p4 hp4 H5 O7
      have hnd3 : ANd (mid.set j (k, needF ms fl)) := by
        unfold ANd
        rw [set_keys hmid]
        exact hnm
      have hget3 : (mid.set j (k, needF ms fl))[j]? = some (k, needF ms fl) := List.getElem?_set_self (List.getElem?_eq_some_iff.mp hmid).1
      obtain ⟨a3, vs3, B3, C3, D3, hga3, hd3, mo3⟩ := makes_out O7.f1 hnd3 (idx_get hnd3 hget3)
      obtain rfl : a3 = p3 := Option.some.inj (hga3.symm.trans hg3)
      refine eqD_of ((areT_da mk_da (mo3.1.fact 0 1 rfl)).list (mo3.1.at 0 0 rfl)) (DA.nil.list (O7.at 0 0 rfl)) (by decide) ?_
      have O8 := O7.drop
      have hd4 := O8.at 0 1 rfl
      clear O7 O6 mo3 hd3
      by_cases hk : needF ms fl = []
      · rw [hk] at O8 hdrop
        have hdr := hdrop rfl (k, [])
        leaf_len
        refine ⟨.inl ⟨_, .inl hd4⟩, ?_⟩
        leaf_len
        refine ⟨(show V.int k = kV (Sum.inl k : Key) from rfl), (show valV (encG V.ref A3.es) (Sum.inl k : Key) = some (V.ref a3) by rw [valV_encG, hg3]; rfl), ?_⟩
        generalize hh : upd H5 _ _ = H6
        have hnd4 : ANd (mid.set j (k, [])) := by
          unfold ANd
          rw [set_keys hmid]
          exact hnm
        obtain ⟨A4, e4, O9⟩ := makes_drop O8 hnd4 (List.getElem?_set_self (List.getElem?_eq_some_iff.mp hmid).1) hh
        rw [hdr] at O9
        have hyl0 : (ys.length : Int) = 0 := by rw [hyl, hk]; rfl
        refine ⟨some (.int k), some (.ref a3), A4, e4, ?_, O9.f1⟩
        rw [hk]
        show [_, _, some (V.int _), _, _] = [_, _, some (V.int _), _, _]
        rw [hal, hyl0]
        simp
      · have hkp := hkeep hk
        rw [hkp] at O8
        leaf_len
        refine ⟨some (.int k), some (.ref a3), A3, rfl, ?_, O8.f1⟩
        show [_, _, some (V.int _), _, _] = [_, _, some (V.int _), _, _]
        rw [hal, hyl, Int.add_sub_assoc]
    · rintro σ H2 ⟨a0, b0, A2, e2, rfl, O2⟩
      rw [List.length_map, mid_last] at O2
      rw [List.length_map, List.take_length, ← e2]
      have q := q H2 A2 e2 O2.drop
      leaf_len
      exact q
end
end SW
namespace SW
open PySem PySem.Spec PyProof.Rows L2
section
variable {P : Program} {w : World} {K : PySem.W.Frag} {mg : Str → Option Value} {base : Heap} {x qual : Str} {params : Arguments} {body : List Stmt} {scope : Scope} {dv0 : List V} {at_ : Str × Option Str} {N ps : List Str} {k : Nat} {sp : Sp}
/-- THE RULE for a def with defaults, n values given, the defaults from j on -/
theorem ok_ofD (n j : Nat) (F : ∃ fd, FunD K x qual params body scope dv0 [] (He.fAd K at_) fd) (S : FnScope N ps scope) (hd : dv0 ≠ []) (hn : n + (dv0.length - j) = ps.length) (len : ∀ vs H Q E, sp vs H Q E → vs.length = ps.length)
    (hb : ∀ (T : Addr) (kV doc pm : Value) (an : Option Addr) (cdv ct : Value) (us its : List Value), us.length = n → its.length = dv0.length →
      ∃ k, bindArgs (PySem.W.fnOf x qual params body scope (.ref T) kV doc pm an cdv ct) ⟨us, []⟩ = seqItems? (.ref T) >>= k ∧ k (some its.toArray) = pure (ps.zip (us ++ its.drop j)))
    (hbody : ∀ (cdv : Value) (A : Around) (outer : List Env) (s : Shared) (H : Hp) (vs : List V) (Q : VK) (E : XK), Room k (A.deeper (envOfC qual scope s.heap.objs.size (He.fAd K at_) cdv)) → sp vs H Q E →
      ∃ t, PSs (cxOf (L2.CX P w) P w K mg base N qual scope (He.fAd K at_) cdv A outer s H E) body t ∧ t { nx := fun _ H' => Q .non H', rt := Q } (start N vs) H) : OkD P w K mg base (k + 1) at_ ps (dv0.drop j) sp := by
  obtain ⟨fd, F⟩ := F
  obtain ⟨ds, rd, b⟩ := F.binds1 n j hd hn hb
  exact ⟨fd, ds, F.ok S len hbody, b, rd, F.kp⟩
end
end SW
namespace SW
open PySem PySem.Spec PyProof.Rows L2
/-! ### the house in the heap -/
def rowE (r : Row) : List V := V.str r.tag.s :: r.args.map V.int
structure HoA where
  p : Addr
  dx : Addr
  S : SlotsA
  L : LvA
  M : MkA
  g : Addr
  gv : List V
  h : Addr
def houseO (K : PySem.W.Frag) (A : HoA) (s : Ho) : Ce := .m A.p (.ins (He.ga K "House") A.dx (flHouse (.int s.now) (.int s.floor) (.ref A.S.p) (.ref A.L.p) (.ref A.M.p) (.ref A.g) (.int s.marked) (.ref A.h)))
def houseC (K : PySem.W.Frag) (A : HoA) (s : Ho) : List Ce :=
  houseO K A s :: (slotsC K A.S s.sl ++ (leavesC K A.L s.lv ++ (makesC K A.M s.mks ++ (tupsC rowE A.g A.gv s.rows ++ [.m A.h (.dK (encD s.hl))]))))
section
variable {K : PySem.W.Frag} {H : Hp} {R : List (List Ce)} {A : HoA} {s : Ho}
theorem house_split (O : Own H (houseC K A s :: R)) : Own H ([.m A.p (.ins (He.ga K "House") A.dx (flHouse (.int s.now) (.int s.floor) (.ref A.S.p) (.ref A.L.p) (.ref A.M.p) (.ref A.g) (.int s.marked) (.ref A.h)))] ::
    slotsC K A.S s.sl :: leavesC K A.L s.lv :: makesC K A.M s.mks :: tupsC rowE A.g A.gv s.rows :: [.m A.h (.dK (encD s.hl))] :: R) := by
  unfold houseC houseO at O
  nest_room
theorem house_join (O : Own H ([.m A.p (.ins (He.ga K "House") A.dx (flHouse (.int s.now) (.int s.floor) (.ref A.S.p) (.ref A.L.p) (.ref A.M.p) (.ref A.g) (.int s.marked) (.ref A.h)))] ::
    slotsC K A.S s.sl :: leavesC K A.L s.lv :: makesC K A.M s.mks :: tupsC rowE A.g A.gv s.rows :: [.m A.h (.dK (encD s.hl))] :: R)) : Own H (houseC K A s :: R) := by
  unfold houseC houseO
  nest_room
end
section
variable {P : Program} {w : World} {K : PySem.W.Frag} {mg : Str → Option Value} {base : Heap}
def sp_Makes___init__ (K : PySem.W.Frag) : Sp := fun vs H Q _ => ∃ (p dx : Addr) (R : List (List Ce)), vs = [.ref p] ∧ Own H ([.m p (.ins (He.ga K "Makes") dx [])] :: R) ∧ ∀ H' A, A.p = p → Own H' (makesC K A [] :: R) → Q .non H'
theorem sc_Makes___init__ : FnScope ["self"] ["self"] (defScope s_Makes___init__) := ⟨rfl, rfl, rfl, by decide +kernel, rfl, by decide +kernel, by decide +kernel⟩
theorem ok_Makes___init__ (T : Txt K mg) : OkD P w K mg base 1 ("Makes", some "__init__") ["self"] [] (sp_Makes___init__ K) := by
  refine ok_of T.f_Makes___init__ sc_Makes___init__ (fun vs H Q E h => ?_) (fun dV kV doc pm an cdv ct us hl => match us, hl with | [_], _ => rfl) (fun cdv A outer s H vs Q E hr h => ?_)
  · obtain ⟨p, dx, R, rfl, _⟩ := h
    rfl
  · obtain ⟨p, dx, R, rfl, O, q⟩ := h
    have c1 := T.cls_Makes
    have c2 := T.no_Makes_by_key
    refine ⟨_, (pss_one (ps_fld (pv 0) pe_dnewK rfl)), ?_⟩
    try dsimp only [L2.cxOf]
    reads_via
    rename_i pl hp H0 O0 H1 O1
    rw [in_Makes] at O1
    refine q H1 ⟨p, dx, pl, [], []⟩ rfl ?_
    exact makes_join (A := ⟨p, dx, pl, [], []⟩) (mk := []) (box_nil O1).g2 ⟨rfl, rfl⟩
def sp_House___init__ (K : PySem.W.Frag) : Sp := fun vs H Q _ => ∃ (p dx : Addr) (R : List (List Ce)), vs = [.ref p] ∧ Own H ([.m p (.ins (He.ga K "House") dx [])] :: R) ∧ ∀ H' A, A.p = p → Own H' (houseC K A Ho.new :: R) → Q .non H'
theorem sc_House___init__ : FnScope ["self"] ["self"] (defScope s_House___init__) := ⟨rfl, rfl, rfl, by decide +kernel, rfl, by decide +kernel, by decide +kernel⟩
theorem ok_House___init__ (T : Txt K mg) : OkD P w K mg base 7 ("House", some "__init__") ["self"] [] (sp_House___init__ K) := by
  refine ok_of T.f_House___init__ sc_House___init__ (fun vs H Q E h => ?_) (fun dV kV doc pm an cdv ct us hl => match us, hl with | [_], _ => rfl) (fun cdv A outer s H vs Q E hr h => ?_)
  · obtain ⟨p, dx, R, rfl, _⟩ := h
    rfl
  · obtain ⟨p, dx, R, rfl, O, q⟩ := h
    have c1 := T.cls_House
    have n1 := T.no_House_now
    have n2 := T.no_House_floor
    have n3 := T.no_House_slots
    have n4 := T.no_House_leaves
    have n5 := T.no_House_past
    have n6 := T.no_House_pages
    have n7 := T.no_House_marked
    have n8 := T.no_House_holders
    refine ⟨_, (pss_cons (ps_fld (pv 0) pe_int rfl)
      (pss_cons (ps_fld (pv 0) pe_int rfl)
      (pss_cons (ps_fld (pv 0) (pe_MK0 (ok_Slots___init__ (K := K) T) T.glo_Slots T.mk_Slots hr) rfl)
      (pss_cons (ps_fld (pv 0) (pe_MK0 (ok_Leaves___init__ (K := K) T) T.glo_Leaves T.mk_Leaves hr) rfl)
      (pss_cons (ps_fld (pv 0) (pe_MK0 (ok_Makes___init__ (K := K) T) T.glo_Makes T.mk_Makes hr) rfl)
      (pss_cons (ps_fld (pv 0) (pe_lst pa_nil) rfl)
      (pss_cons (ps_fld (pv 0) pe_int rfl)
      (pss_one (ps_fld (pv 0) pe_dnewK rfl))))))))), ?_⟩
    try dsimp only [L2.cxOf]
    reads_via
    rename_i O2
    intro x1 d1 nx1 nd1 ne1
    generalize hh : upd _ x1 _ = G1
    have P1 := O2.genM nx1 nd1 ne1 hh
    refine ⟨x1, d1, _, rfl, P1, fun H2 B1 eB Q1 => ⟨rfl, ?_⟩⟩
    subst eB
    clear hh P1 nx1 nd1 ne1
    leaf_len
    isplit
    rename_i O3
    intro x2 d2 nx2 nd2 ne2
    generalize hh : upd _ x2 _ = G2
    have P2 := O3.genM nx2 nd2 ne2 hh
    refine ⟨x2, d2, _, rfl, P2, fun H3 B2 eB Q2 => ⟨rfl, ?_⟩⟩
    subst eB
    clear hh P2 nx2 nd2 ne2
    leaf_len
    isplit
    rename_i O4
    intro x3 d3 nx3 nd3 ne3
    generalize hh : upd _ x3 _ = G3
    have P3 := O4.genM nx3 nd3 ne3 hh
    refine ⟨x3, d3, _, rfl, P3, fun H4 B3 eB Q3 => ⟨rfl, ?_⟩⟩
    subst eB
    clear hh P3 nx3 nd3 ne3
    leaf_len
    isplit
    leaf_len
    isplit
    leaf_len
    none_booked
    leaf_len
    isplit
    rename_i pg _ _ _ _ _ _ _ hl _ _ _ _ O9
    rw [in_House] at O9
    have P9 := tups_nil (enc := rowE) (d := pg) O9.f2
    refine q _ ⟨p, dx, B1, B2, B3, pg, [], hl⟩ rfl (house_join (A := ⟨p, dx, B1, B2, B3, pg, [], hl⟩) (s := Ho.new) ?_)
    clear O9
    have P8 : Own _ (_ :: [Ce.m p (HO.ins (He.ga K "House") dx (flHouse (.int 0) (.int 0) (.ref B1.p) (.ref B2.p) (.ref B3.p) (.ref pg) (.int 0) (.ref hl)))] :: [Ce.m hl (HO.dK (encD []))] :: makesC K B3 [] :: leavesC K B2 [] :: slotsC K B1 newSl :: R) := P9
    clear P9
    show Own _ ([Ce.m p (HO.ins (He.ga K "House") dx (flHouse (.int 0) (.int 0) (.ref B1.p) (.ref B2.p) (.ref B3.p) (.ref pg) (.int 0) (.ref hl)))] :: slotsC K B1 newSl :: leavesC K B2 [] :: makesC K B3 [] :: tupsC rowE pg [] [] :: [Ce.m hl (HO.dK (encD []))] :: R)
    nest_room
def sp_House_done (K : PySem.W.Frag) : Sp := fun vs H Q _ => ∃ (A : HoA) (s : Ho) (R : List (List Ce)) (t : Addr) (k : Int) (v : Option Int) (r : Row), vs = [.ref A.p, .ref t, .int k, oV v] ∧ Own H (houseC K A s :: R) ∧ H t = some (.tup (rowE r)) ∧
  ANd s.mks ∧ s.mks.length < 100000 ∧ (∀ p ∈ s.mks, p.2.length < 100000) ∧ s.rows.length < 100000 ∧ ∀ H' A', A'.p = A.p → Own H' (houseC K A' (s.done r k v) :: R) → Q (.int (s.now + 1)) H'
theorem sc_House_done : FnScope ["self", "row", "key", "value"] ["self", "row", "key", "value"] (defScope s_House_done) := ⟨rfl, rfl, rfl, by decide +kernel, rfl, by decide +kernel, by decide +kernel⟩
theorem ok_House_done (T : Txt K mg) : OkD P w K mg base 2 ("House", some "done") ["self", "row", "key", "value"] [] (sp_House_done K) := by
  refine ok_of T.f_House_done sc_House_done (fun vs H Q E h => ?_) (fun dV kV doc pm an cdv ct us hl => match us, hl with | [_, _, _, _], _ => rfl) (fun cdv A outer s H vs Q E hr h => ?_)
  · obtain ⟨A, s, R, t, k, v, r, rfl, _⟩ := h
    rfl
  · obtain ⟨A, s, R, t, k, v, r, rfl, O, ht, hn, hz1, hz2, hz3, q⟩ := h
    have O1 := (house_split O).addP st_tp ht
    have hvl := areT_len (tups_is O1.f5)
    clear O ht
    refine ⟨_, (pss_cons (ps_House_now T (pv 0) (pe_op op_add (pe_House_now T (pv 0)) pe_int))
      (pss_cons (ps_expr (pe_bm PySem.F.plainAttrs_list PySem.F.slot_list_append PySem.F.type_list_append mt_append (pe_House_pages T (pv 0)) (pa_cons (pv 1) pa_nil)))
      (pss_cons (ps_expr (pe_GM (ok_Makes_add (K := K) T) (pe_House_past T (pv 0)) T.cls_Makes T.me_Makes_add gMMakes_add hr passL (pa_cons (pv 2) (pa_cons (pe_House_now T (pv 0)) (pa_cons (pv 3) pa_nil)))))
      (pss_one (ps_ret (pe_House_now T (pv 0))))))), ?_⟩
    try dsimp only [L2.cxOf]
    reads_via
    rename_i H2 O2
    refine ⟨small_size (by omega), ?_⟩
    generalize hh : upd H2 _ _ = H3
    have O3 := tups_push O2.f5 ⟨t, rfl, O2.tup 1 0 rfl⟩ hh
    have O4 := O3.f2.drop.f1
    clear O1 O2 O3 hh
    leaf_len
    intro H4 M2 eM O5
    clear O4
    rw [← eM] at O5
    leaf_len
    exact q H4 ⟨A.p, A.dx, A.S, A.L, M2, A.g, A.gv ++ [V.ref t], A.h⟩ rfl (house_join (A := ⟨A.p, A.dx, A.S, A.L, M2, A.g, A.gv ++ [V.ref t], A.h⟩) (s := s.done r k v) (O5.f2.g4.f3.f3.f3))
end
end SW
namespace SW
open PySem PySem.Spec PyProof.Rows L2
section
variable {P : Program} {w : World} {K : PySem.W.Frag} {mg : Str → Option Value} {base : Heap}
def sp_House_put (K : PySem.W.Frag) : Sp := fun vs H Q _ => ∃ (A : HoA) (s : Ho) (R : List (List Ce)) (k v : Int) (n : Nat), vs = [.ref A.p, .int k, .int v] ∧ Own H (houseC K A s :: R) ∧ HoOk s n ∧ n < 99999 ∧ 0 ≤ k ∧
  ∀ H' A', A'.p = A.p → Own H' (houseC K A' (s.put k v) :: R) → Q (.int (s.now + 1)) H'
theorem sc_House_put : FnScope ["self", "key", "value"] ["self", "key", "value"] (defScope s_House_put) := ⟨rfl, rfl, rfl, by decide +kernel, rfl, by decide +kernel, by decide +kernel⟩
theorem ok_House_put (T : Txt K mg) : OkD P w K mg base 7 ("House", some "put") ["self", "key", "value"] [] (sp_House_put K) := by
  refine ok_of T.f_House_put sc_House_put (fun vs H Q E h => ?_) (fun dV kV doc pm an cdv ct us hl => match us, hl with | [_, _, _], _ => rfl) (fun cdv A outer s H vs Q E hr h => ?_)
  · obtain ⟨A, s, R, k, v, n, rfl, _⟩ := h
    rfl
  · obtain ⟨A, s, R, k, v, n, rfl, O, hs, hn, hk, q⟩ := h
    have O1 := house_split O
    have h1 := hs.sl
    have h2 := hs.n1
    have h3 := hs.lv
    have h4 := hs.lvz
    have h5 := hs.n3
    have h6 := hs.n5
    have h7 : ∀ p ∈ s.mks, p.2.length < 100000 := fun p hp => by have := hs.n4 p hp; omega
    have h8 := hs.mks
    clear O
    unfold Ho.put at q
    refine ⟨_, (pss_cons (ps_if (pt_not (pt_val (pe_GM (ok_Slots_has (K := K) T) (pe_House_slots T (pv 0)) T.cls_Slots T.me_Slots_has gMSlots_has hr passL (pa_cons (pv 1) pa_nil))))
      (pss_one (ps_expr (pe_GM (ok_Leaves_add (K := K) T) (pe_House_leaves T (pv 0)) T.cls_Leaves T.me_Leaves_add gMLeaves_add hr passL (pa_cons (pv 1) pa_nil))))
      pss_nil)
      (pss_cons (ps_expr (pe_GM (ok_Slots_put (K := K) T) (pe_House_slots T (pv 0)) T.cls_Slots T.me_Slots_put gMSlots_put hr passL (pa_cons (pv 1) (pa_cons (pv 2) pa_nil))))
      (pss_one (ps_ret (pe_GM (ok_House_done (K := K) T) (pv 0) T.cls_House T.me_House_done gMHouse_done hr passL (pa_cons (pe_tup (pa_cons pe_str (pa_cons (pv 1) (pa_cons (pv 2) pa_nil)))) (pa_cons (pv 1) (pa_cons (pv 2) pa_nil)))))))), ?_⟩
    try dsimp only [L2.cxOf]
    leaf_len
    cases hc : (s.sl.look k).isSome with
    | true =>
      rw [hc] at q
      leaf_len
      intro H2 S2 eS O2
      clear O1
      rw [← eS] at O2
      obtain ⟨A2, e2, O3⟩ : ∃ A2 : HoA, A2.p = A.p ∧ Own H2 (houseC K A2 { s with lv := s.lv, sl := s.sl.put k v } :: R) := ⟨⟨A.p, A.dx, S2, A.L, A.M, A.g, A.gv, A.h⟩, rfl, house_join (A := ⟨A.p, A.dx, S2, A.L, A.M, A.g, A.gv, A.h⟩) (s := { s with lv := s.lv, sl := s.sl.put k v }) O2.f1⟩
      clear O2
      rw [← e2] at q ⊢
      leaf_len
      rename_i t ht H3 O4
      refine ⟨(show _ = [V.ref A2.p, _, _, oV (some v)] from rfl), O4.f1, (O4.tup 0 0 rfl : _ = some (HO.tup (rowE (rPut k v)))), h8, by show s.mks.length < 100000; omega, h7, by show s.rows.length < 100000; omega, ?_⟩
      intro H4 A3 e3 O5
      exact q H4 A3 e3 O5.drop1
    | false =>
      rw [hc] at q
      have hm : k ∉ s.lv.flatten := fun hm => by rw [(hs.same k).mp hm] at hc; cases hc
      leaf_len
      intro H1 L2 eL O0
      clear O1
      rw [← eL] at O0
      have O1 := O0
      clear O0
      leaf_len
      intro H2 S2 eS O2
      clear O1
      rw [← eS] at O2
      obtain ⟨A2, e2, O3⟩ : ∃ A2 : HoA, A2.p = A.p ∧ Own H2 (houseC K A2 { s with lv := lvAdd s.lv k, sl := s.sl.put k v } :: R) := ⟨⟨A.p, A.dx, S2, L2, A.M, A.g, A.gv, A.h⟩, rfl, house_join (A := ⟨A.p, A.dx, S2, L2, A.M, A.g, A.gv, A.h⟩) (s := { s with lv := lvAdd s.lv k, sl := s.sl.put k v }) (by nest_room)⟩
      clear O2
      rw [← e2] at q ⊢
      leaf_len
      rename_i t ht H3 O4
      refine ⟨(show _ = [V.ref A2.p, _, _, oV (some v)] from rfl), O4.f1, (O4.tup 0 0 rfl : _ = some (HO.tup (rowE (rPut k v)))), h8, by show s.mks.length < 100000; omega, h7, by show s.rows.length < 100000; omega, ?_⟩
      intro H4 A3 e3 O5
      exact q H4 A3 e3 O5.drop1
def sp_House_drop (K : PySem.W.Frag) : Sp := fun vs H Q _ => ∃ (A : HoA) (s : Ho) (R : List (List Ce)) (k : Int) (n : Nat), vs = [.ref A.p, .int k] ∧ Own H (houseC K A s :: R) ∧ HoOk s n ∧ n < 99999 ∧ 0 ≤ k ∧ (s.sl.look k).isSome = true ∧
  ∀ H' A', A'.p = A.p → Own H' (houseC K A' (s.drop k) :: R) → Q (.int (s.now + 1)) H'
theorem sc_House_drop : FnScope ["self", "key"] ["self", "key"] (defScope s_House_drop) := ⟨rfl, rfl, rfl, by decide +kernel, rfl, by decide +kernel, by decide +kernel⟩
theorem ok_House_drop (T : Txt K mg) : OkD P w K mg base 7 ("House", some "drop") ["self", "key"] [] (sp_House_drop K) := by
  refine ok_of T.f_House_drop sc_House_drop (fun vs H Q E h => ?_) (fun dV kV doc pm an cdv ct us hl => match us, hl with | [_, _], _ => rfl) (fun cdv A outer s H vs Q E hr h => ?_)
  · obtain ⟨A, s, R, k, n, rfl, _⟩ := h
    rfl
  · obtain ⟨A, s, R, k, n, rfl, O, hs, hn, hk, hh, q⟩ := h
    have O1 := house_split O
    have h1 := hs.sl
    have h2 := hs.n1
    have h3 := hs.lv
    have h4 := hs.lvz
    have h5 := hs.n3
    have h6 := hs.n5
    have h7 : ∀ p ∈ s.mks, p.2.length < 100000 := fun p hp => by have := hs.n4 p hp; omega
    have h8 := hs.mks
    have hm := (hs.same k).mpr hh
    clear O
    unfold Ho.drop at q
    refine ⟨_, (pss_cons (ps_expr (pe_GM (ok_Slots_drop (K := K) T) (pe_House_slots T (pv 0)) T.cls_Slots T.me_Slots_drop gMSlots_drop hr passL (pa_cons (pv 1) pa_nil)))
      (pss_cons (ps_expr (pe_GM (ok_Leaves_discard (K := K) T) (pe_House_leaves T (pv 0)) T.cls_Leaves T.me_Leaves_discard gMLeaves_discard hr passL (pa_cons (pv 1) pa_nil)))
      (pss_one (ps_ret (pe_GM (ok_House_done (K := K) T) (pv 0) T.cls_House T.me_House_done gMHouse_done hr passL (pa_cons (pe_tup (pa_cons pe_str (pa_cons (pv 1) pa_nil))) (pa_cons (pv 1) (pa_cons pe_non pa_nil)))))))), ?_⟩
    try dsimp only [L2.cxOf]
    leaf_len
    intro H2 S2 eS O2
    clear O1
    rw [← eS] at O2
    leaf_len
    intro H3 L2 eL O3
    clear O2
    rw [← eL] at O3
    obtain ⟨A2, e2, O4⟩ : ∃ A2 : HoA, A2.p = A.p ∧ Own H3 (houseC K A2 { s with lv := lvDel s.lv k, sl := s.sl.drop k } :: R) := ⟨⟨A.p, A.dx, S2, L2, A.M, A.g, A.gv, A.h⟩, rfl, house_join (A := ⟨A.p, A.dx, S2, L2, A.M, A.g, A.gv, A.h⟩) (s := { s with lv := lvDel s.lv k, sl := s.sl.drop k }) (by nest_room)⟩
    clear O3
    rw [← e2] at q ⊢
    leaf_len
    rename_i t ht H4 O5
    refine ⟨(show _ = [V.ref A2.p, _, _, oV none] from rfl), O5.f1, (O5.tup 0 0 rfl : _ = some (HO.tup (rowE (rDrop k)))), h8, by show s.mks.length < 100000; omega, h7, by show s.rows.length < 100000; omega, ?_⟩
    intro H5 A3 e3 O6
    exact q H5 A3 e3 O6.drop1
def sp_House_get (K : PySem.W.Frag) : Sp := fun vs H Q _ => ∃ (A : HoA) (s : Ho) (R : List (List Ce)) (k v : Int), vs = [.ref A.p, .int k] ∧ Own H (houseC K A s :: R) ∧ s.sl.Ok ∧ 0 ≤ k ∧ s.sl.look k = some v ∧ Q (.int v) H
theorem sc_House_get : FnScope ["self", "key"] ["self", "key"] (defScope s_House_get) := ⟨rfl, rfl, rfl, by decide +kernel, rfl, by decide +kernel, by decide +kernel⟩
theorem ok_House_get (T : Txt K mg) : OkD P w K mg base 7 ("House", some "get") ["self", "key"] [] (sp_House_get K) := by
  refine ok_of T.f_House_get sc_House_get (fun vs H Q E h => ?_) (fun dV kV doc pm an cdv ct us hl => match us, hl with | [_, _], _ => rfl) (fun cdv A outer s H vs Q E hr h => ?_)
  · obtain ⟨A, s, R, k, v, rfl, _⟩ := h
    rfl
  · obtain ⟨A, s, R, k, v, rfl, O, hs, hk, hh, q⟩ := h
    have O1 := house_split O
    refine ⟨_, (pss_one (ps_ret (pe_GM (ok_Slots_get (K := K) T) (pe_House_slots T (pv 0)) T.cls_Slots T.me_Slots_get gMSlots_get hr passL (pa_cons (pv 1) pa_nil)))), ?_⟩
    try dsimp only [L2.cxOf]
    leaf_len
    exact q
def sp_House_has (K : PySem.W.Frag) : Sp := fun vs H Q _ => ∃ (A : HoA) (s : Ho) (R : List (List Ce)) (k : Int), vs = [.ref A.p, .int k] ∧ Own H (houseC K A s :: R) ∧ s.sl.Ok ∧ 0 ≤ k ∧ Q (.bl (s.sl.look k).isSome) H
theorem sc_House_has : FnScope ["self", "key"] ["self", "key"] (defScope s_House_has) := ⟨rfl, rfl, rfl, by decide +kernel, rfl, by decide +kernel, by decide +kernel⟩
theorem ok_House_has (T : Txt K mg) : OkD P w K mg base 6 ("House", some "has") ["self", "key"] [] (sp_House_has K) := by
  refine ok_of T.f_House_has sc_House_has (fun vs H Q E h => ?_) (fun dV kV doc pm an cdv ct us hl => match us, hl with | [_, _], _ => rfl) (fun cdv A outer s H vs Q E hr h => ?_)
  · obtain ⟨A, s, R, k, rfl, _⟩ := h
    rfl
  · obtain ⟨A, s, R, k, rfl, O, hs, hk, q⟩ := h
    have O1 := house_split O
    refine ⟨_, (pss_one (ps_ret (pe_GM (ok_Slots_has (K := K) T) (pe_House_slots T (pv 0)) T.cls_Slots T.me_Slots_has gMSlots_has hr passL (pa_cons (pv 1) pa_nil)))), ?_⟩
    try dsimp only [L2.cxOf]
    leaf_len
    exact q
def sp_House_many (K : PySem.W.Frag) : Sp := fun vs H Q _ => ∃ (A : HoA) (s : Ho) (R : List (List Ce)), vs = [.ref A.p] ∧ Own H (houseC K A s :: R) ∧ Q (.int s.sl.number) H
theorem sc_House_many : FnScope ["self"] ["self"] (defScope s_House_many) := ⟨rfl, rfl, rfl, by decide +kernel, rfl, by decide +kernel, by decide +kernel⟩
theorem ok_House_many (T : Txt K mg) : OkD P w K mg base 5 ("House", some "many") ["self"] [] (sp_House_many K) := by
  refine ok_of T.f_House_many sc_House_many (fun vs H Q E h => ?_) (fun dV kV doc pm an cdv ct us hl => match us, hl with | [_], _ => rfl) (fun cdv A outer s H vs Q E hr h => ?_)
  · obtain ⟨A, s, R, rfl, _⟩ := h
    rfl
  · obtain ⟨A, s, R, rfl, O, q⟩ := h
    have O1 := house_split O
    refine ⟨_, (pss_one (ps_ret (pe_GM0 (ok_Slots_many (K := K) T) (pe_House_slots T (pv 0)) T.cls_Slots T.me_Slots_many gMSlots_many hr passL))), ?_⟩
    try dsimp only [L2.cxOf]
    leaf_len
    exact q
def sp_House_makes (K : PySem.W.Frag) : Sp := fun vs H Q _ => ∃ (A : HoA) (s : Ho) (R : List (List Ce)) (k : Int), vs = [.ref A.p, .int k] ∧ Own H (houseC K A s :: R) ∧ ANd s.mks ∧
  ∀ H' p ys, Own H' (tupsC mkE p ys ((aget s.mks k).getD []) :: houseC K A s :: R) → Q (.ref p) H'
theorem sc_House_makes : FnScope ["self", "key"] ["self", "key"] (defScope s_House_makes) := ⟨rfl, rfl, rfl, by decide +kernel, rfl, by decide +kernel, by decide +kernel⟩
theorem ok_House_makes (T : Txt K mg) : OkD P w K mg base 2 ("House", some "makes") ["self", "key"] [] (sp_House_makes K) := by
  refine ok_of T.f_House_makes sc_House_makes (fun vs H Q E h => ?_) (fun dV kV doc pm an cdv ct us hl => match us, hl with | [_, _], _ => rfl) (fun cdv A outer s H vs Q E hr h => ?_)
  · obtain ⟨A, s, R, k, rfl, _⟩ := h
    rfl
  · obtain ⟨A, s, R, k, rfl, O, hn, q⟩ := h
    have O1 := house_split O
    clear O
    refine ⟨_, (pss_one (ps_ret (pe_GM (ok_Makes_made (K := K) T) (pe_House_past T (pv 0)) T.cls_Makes T.me_Makes_made gMMakes_made hr passL (pa_cons (pv 1) pa_nil)))), ?_⟩
    try dsimp only [L2.cxOf]
    leaf_len
    intro H2 p ys O2
    exact q H2 p ys (house_join (R := tupsC mkE p ys ((aget s.mks k).getD []) :: R) (by nest_room)).f1
def sp_House_diary (K : PySem.W.Frag) : Sp := fun vs H Q _ => ∃ (A : HoA) (s : Ho) (R : List (List Ce)), vs = [.ref A.p, .int 0] ∧ Own H (houseC K A s :: R) ∧
  ∀ H' p ys, Own H' (tupsC rowE p ys s.rows :: houseC K A s :: R) → Q (.ref p) H'
theorem sc_House_diary : FnScope ["self", "low"] ["self", "low"] (defScope s_House_diary) := ⟨rfl, rfl, rfl, by decide +kernel, rfl, by decide +kernel, by decide +kernel⟩
theorem ok_House_diary_d0 (T : Txt K mg) : OkD P w K mg base 1 ("House", some "diary") ["self", "low"] [V.int 0] (sp_House_diary K) := by
  refine ok_ofD 1 0 T.f_House_diary sc_House_diary (by simp) (by rfl) (fun vs H Q E h => ?_) (fun T1 kV doc pm an cdv ct us its hl hi => match us, its, hl, hi with | [_], [_], _, _ => ⟨_, rfl, rfl⟩) (fun cdv A outer s H vs Q E hr h => ?_)
  · obtain ⟨A, s, R, rfl, _⟩ := h
    rfl
  · obtain ⟨A, s, R, rfl, O, q⟩ := h
    have O1 := house_split O
    refine ⟨_, (pss_one (ps_ret (pe_slice sl_list (pe_House_pages T (pv 0)) (po_some (pv 1)) po_none))), ?_⟩
    try dsimp only [L2.cxOf]
    leaf_len
    rename_i p hp H2 O2
    rw [show cutV A.gv (some 0) none = A.gv from cut_drop A.gv 0] at O2
    have h3 := tups_new O2 (tups_is O2.f5)
    clear O O1 O2
    exact q H2 p _ (house_join (A := A) (s := s) (R := tupsC rowE p A.gv s.rows :: R) (by nest_room)).f1
def sp_House_lay_mark (K : PySem.W.Frag) : Sp := fun vs H Q _ => ∃ (A : HoA) (s : Ho) (R : List (List Ce)), vs = [.ref A.p] ∧ Own H (houseC K A s :: R) ∧ s.rows.length < 100000 ∧
  ∀ H' A', A'.p = A.p → Own H' (houseC K A' s.mark :: R) → Q (.int (s.marked + 1)) H'
theorem sc_House_lay_mark : FnScope ["self"] ["self"] (defScope s_House_lay_mark) := ⟨rfl, rfl, rfl, by decide +kernel, rfl, by decide +kernel, by decide +kernel⟩
theorem ok_House_lay_mark (T : Txt K mg) : OkD P w K mg base 1 ("House", some "lay_mark") ["self"] [] (sp_House_lay_mark K) := by
  refine ok_of T.f_House_lay_mark sc_House_lay_mark (fun vs H Q E h => ?_) (fun dV kV doc pm an cdv ct us hl => match us, hl with | [_], _ => rfl) (fun cdv A outer s H vs Q E hr h => ?_)
  · obtain ⟨A, s, R, rfl, _⟩ := h
    rfl
  · obtain ⟨A, s, R, rfl, O, hz, q⟩ := h
    have O1 := house_split O
    have hvl := areT_len (tups_is O1.f4)
    clear O
    refine ⟨_, (pss_cons (ps_House_marked T (pv 0) (pe_op op_add (pe_House_marked T (pv 0)) pe_int))
      (pss_cons (ps_expr (pe_bm PySem.F.plainAttrs_list PySem.F.slot_list_append PySem.F.type_list_append mt_append (pe_House_pages T (pv 0)) (pa_cons (pe_tup (pa_cons pe_str (pa_cons (pe_House_marked T (pv 0)) pa_nil))) pa_nil)))
      (pss_one (ps_ret (pe_House_marked T (pv 0)))))), ?_⟩
    try dsimp only [L2.cxOf]
    reads_via
    rename_i H2 O2 t ht H3 O3
    refine ⟨small_size (by omega), ?_⟩
    generalize hh : upd H3 _ _ = H4
    have O4 := tups_push (a := rMark (s.marked + 1)) O3.f5 ⟨t, rfl, O3.tup 0 0 rfl⟩ hh
    have O5 := O4.f1.drop.f1
    clear O1 O2 O3 O4 hh
    leaf_len
    exact q H4 ⟨A.p, A.dx, A.S, A.L, A.M, A.g, A.gv ++ [V.ref t], A.h⟩ rfl (house_join (A := ⟨A.p, A.dx, A.S, A.L, A.M, A.g, A.gv ++ [V.ref t], A.h⟩) (s := s.mark) O5.f1.g4)
end
end SW
namespace SW
open PySem PySem.Spec PyProof.Rows L2
section
variable {P : Program} {w : World} {K : PySem.W.Frag} {mg : Str → Option Value} {base : Heap}
theorem map_del (k v : Int) : ∀ l : List (Int × Int), adel (l.map fun p => if p.1 = k then (p.1, v) else p) k = adel l k
  | [] => rfl
  | p :: l => by
    have ih := map_del k v l
    unfold adel at *
    by_cases e : p.1 = k
    · simp only [List.map_cons, e, if_true, List.filter_cons, ne_eq, not_true, decide_false]
      exact ih
    · rw [List.map_cons, if_neg e, List.filter_cons, List.filter_cons, ih]
theorem del_put (l : List (Int × Int)) (k v : Int) : adel (aput l k v) k = adel l k := by
  unfold aput
  split
  · exact map_del k v l
  · unfold adel
    rw [List.filter_append]
    simp
def sp_House_hold (K : PySem.W.Frag) : Sp := fun vs H Q _ => ∃ (A : HoA) (s : Ho) (R : List (List Ce)), vs = [.ref A.p] ∧ Own H (houseC K A s :: R) ∧ s.hl.length < 100000 ∧
  ∀ H' A', A'.p = A.p → Own H' (houseC K A' s.hold :: R) → Q (.int s.now) H'
theorem sc_House_hold : FnScope ["self"] ["self"] (defScope s_House_hold) := ⟨rfl, rfl, rfl, by decide +kernel, rfl, by decide +kernel, by decide +kernel⟩
theorem ok_House_hold (T : Txt K mg) : OkD P w K mg base 1 ("House", some "hold") ["self"] [] (sp_House_hold K) := by
  refine ok_of T.f_House_hold sc_House_hold (fun vs H Q E h => ?_) (fun dV kV doc pm an cdv ct us hl => match us, hl with | [_], _ => rfl) (fun cdv A outer s H vs Q E hr h => ?_)
  · obtain ⟨A, s, R, rfl, _⟩ := h
    rfl
  · obtain ⟨A, s, R, rfl, O, hz, q⟩ := h
    have O1 := house_split O
    have O2 := O1.f5
    have hd := dget_enc (O2.at 0 0 rfl) s.now
    clear O O1
    refine ⟨_, (pss_cons (ps_dput (hu_of hr) (pe_House_holders T (pv 0)) (pe_House_now T (pv 0)) (pe_op op_add (pe_dget2 (hu_of hr) (pe_House_holders T (pv 0)) (pe_House_now T (pv 0)) pe_int ⟨rfl, rfl, rfl, rfl⟩) pe_int) rfl)
      (pss_one (ps_ret (pe_House_now T (pv 0))))), ?_⟩
    try dsimp only [L2.cxOf]
    leaf_len
    refine ⟨.inl ⟨_, .inl (O2.at 0 0 rfl)⟩, ?_⟩
    have hc : ∃ c, ((aget s.hl s.now).map V.int).getD (.int 0) = .int c ∧ c = (aget s.hl s.now).getD 0 := by
      cases aget s.hl s.now with
      | none => exact ⟨0, rfl, rfl⟩
      | some c => exact ⟨c, rfl, rfl⟩
    obtain ⟨c, hc, ec⟩ := hc
    leaf_len
    refine ⟨.inl ⟨_, .inl s.now, O2.at 0 0 rfl, rfl, by rw [len_enc]; exact small_size (by omega), rfl⟩, ?_⟩
    generalize hh : upd _ _ _ = H3
    have O3 := O2.genS (H' := H3) (o' := .dK (encD (aput s.hl s.now (c + 1)))) (by rw [← putK_enc]; exact hh)
    clear O2 hh
    have q := q H3 A rfl
    unfold Ho.hold at q
    rw [← ec] at q
    have q := q (house_join O3.f5.f5.f5.f5.f5)
    leaf_len
    exact q
def sp_House_let_go (K : PySem.W.Frag) : Sp := fun vs H Q _ => ∃ (A : HoA) (s : Ho) (R : List (List Ce)) (t : Int), vs = [.ref A.p, .int t] ∧ Own H (houseC K A s :: R) ∧ s.hl.length < 100000 ∧ (aget s.hl t).isSome = true ∧
  ∀ H' A', A'.p = A.p → Own H' (houseC K A' (s.letGo t) :: R) → Q .non H'
theorem sc_House_let_go : FnScope ["self", "moment"] ["self", "moment"] (defScope s_House_let_go) := ⟨rfl, rfl, rfl, by decide +kernel, rfl, by decide +kernel, by decide +kernel⟩
theorem ok_House_let_go (T : Txt K mg) : OkD P w K mg base 1 ("House", some "let_go") ["self", "moment"] [] (sp_House_let_go K) := by
  refine ok_of T.f_House_let_go sc_House_let_go (fun vs H Q E h => ?_) (fun dV kV doc pm an cdv ct us hl => match us, hl with | [_, _], _ => rfl) (fun cdv A outer s H vs Q E hr h => ?_)
  · obtain ⟨A, s, R, t, rfl, _⟩ := h
    rfl
  · obtain ⟨A, s, R, t, rfl, O, hz, hg, q⟩ := h
    have O1 := house_split O
    have O2 := O1.f5
    have hd := dget_enc (O2.at 0 0 rfl) t
    clear O O1
    refine ⟨_, (pss_cons (ps_if (pt_cmp (pc_dnotin (hu_of hr) (pv 1) (pe_House_holders T (pv 0))))
      (pss_one ps_never)
      pss_nil)
      (pss_cons (ps_dput (hu_of hr) (pe_House_holders T (pv 0)) (pv 1) (pe_op op_sub (pe_dget (hu_of hr) (pe_House_holders T (pv 0)) (pv 1) (fun _ _ => rfl)) pe_int) rfl)
      (pss_one (ps_if (pt_cmpR op_eq (pe_dget (hu_of hr) (pe_House_holders T (pv 0)) (pv 1) (fun _ _ => rfl)) pe_int (nomark _))
      (pss_one (ps_expr (pe_dpop1 (pe_House_holders T (pv 0)) (pv 1) ⟨rfl, rfl, rfl, rfl⟩)))
      pss_nil)))), ?_⟩
    try dsimp only [L2.cxOf]
    leaf_len
    obtain ⟨c, hc⟩ := Option.isSome_iff_exists.mp hg
    simp only [hc, Option.map_some, Option.isSome_some, Bool.not_true]
    rw [hc] at hd
    leaf_len
    refine ⟨.inl ⟨_, .inl t, O2.at 0 0 rfl, rfl, by rw [len_enc]; exact small_size (by omega), rfl⟩, ?_⟩
    generalize hh : upd _ _ _ = H3
    have O3 := O2.genS (H' := H3) (o' := .dK (encD (aput s.hl t (c - 1)))) (by rw [← putK_enc]; exact hh)
    have hd := dget_enc (O3.at 0 0 rfl) t
    rw [aget_put, if_pos rfl] at hd
    clear O2 hh
    unfold Ho.letGo at q
    rw [hc] at q
    leaf_len
    have e0 : (some c : Option Int).getD 0 - 1 = c - 1 := rfl
    rw [e0] at q
    by_cases hz0 : c - 1 = 0
    · rw [if_pos hz0] at q
      have e1 : V.int (c - 1) = V.int 0 := by rw [hz0]
      leaf_len
      refine ⟨.inl ⟨_, .inl (O3.at 0 0 rfl)⟩, ?_⟩
      leaf_len
      refine ⟨(show V.int t = kV (Sum.inl t : Key) from rfl), (show valV (encD (aput s.hl t (c - 1))) (Sum.inl t : Key) = some (.int (c - 1)) by rw [valV_enc, aget_put, if_pos rfl]; rfl), ?_⟩
      generalize hh : upd H3 _ _ = H4
      have O4 := O3.genS (H' := H4) (o' := .dK (encD (adel (aput s.hl t (c - 1)) t))) (by rw [← dropK_enc]; exact hh)
      rw [del_put] at O4
      exact q H4 A rfl (house_join O4.f5.f5.f5.f5.f5)
    · rw [if_neg hz0] at q
      have e1 : ¬ V.int (c - 1) = V.int 0 := fun e => hz0 (V.int.inj e)
      leaf_len
      exact q H3 A rfl (house_join O3.f5.f5.f5.f5.f5)
def sp_House_held (K : PySem.W.Frag) : Sp := fun vs H Q _ => ∃ (A : HoA) (s : Ho) (R : List (List Ce)), vs = [.ref A.p] ∧ Own H (houseC K A s :: R) ∧ s.hl.length < 64 ∧ ANd s.hl ∧
  ∀ H' p, Own H' ([.m p (.lst ((heldF s.hl).map V.int))] :: houseC K A s :: R) → Q (.ref p) H'
theorem sc_House_held : FnScope ["self"] ["self"] (defScope s_House_held) := ⟨rfl, rfl, rfl, by decide +kernel, rfl, by decide +kernel, by decide +kernel⟩
theorem ok_House_held (T : Txt K mg) : OkD P w K mg base 1 ("House", some "held") ["self"] [] (sp_House_held K) := by
  refine ok_of T.f_House_held sc_House_held (fun vs H Q E h => ?_) (fun dV kV doc pm an cdv ct us hl => match us, hl with | [_], _ => rfl) (fun cdv A outer s H vs Q E hr h => ?_)
  · obtain ⟨A, s, R, rfl, _⟩ := h
    rfl
  · obtain ⟨A, s, R, rfl, O, hz, hn, q⟩ := h
    have O1 := house_split O
    refine ⟨_, (pss_one (ps_ret (pe_callB (call_sortedDI rfl) (by rfl) T.free_sorted (by decide +kernel) (pa_cons (pe_House_holders T (pv 0)) pa_nil)))), ?_⟩
    try dsimp only [L2.cxOf]
    leaf_len
    refine ⟨.inl (O1.at 5 0 rfl), (show (encD s.hl).map (·.1) = (s.hl.map (·.1)).map Sum.inl by unfold encD; rw [List.map_map, List.map_map]; rfl), by rw [List.length_map]; exact hz, fun ys p hp hs hpn => ?_⟩
    rw [held_of hn hp hs]
    generalize hh : upd _ _ _ = H3
    have O3 := O.gen hpn hh
    exact q H3 p O3
def sp_House_sweep (K : PySem.W.Frag) : Sp := fun vs H Q _ => ∃ (A : HoA) (s : Ho) (R : List (List Ce)) (n : Nat), vs = [.ref A.p] ∧ Own H (houseC K A s :: R) ∧ HoOk s n ∧ n < 64 ∧
  ∀ H' A', A'.p = A.p → Own H' (houseC K A' s.sweep :: R) → Q (.int (goneF s.mks s.sweep.floor)) H'
theorem sc_House_sweep : FnScope ["self"] ["self"] (defScope s_House_sweep) := ⟨rfl, rfl, rfl, by decide +kernel, rfl, by decide +kernel, by decide +kernel⟩
theorem ok_House_sweep (T : Txt K mg) : OkD P w K mg base 3 ("House", some "sweep") ["self"] [] (sp_House_sweep K) := by
  refine ok_of T.f_House_sweep sc_House_sweep (fun vs H Q E h => ?_) (fun dV kV doc pm an cdv ct us hl => match us, hl with | [_], _ => rfl) (fun cdv A outer s H vs Q E hr h => ?_)
  · obtain ⟨A, s, R, n, rfl, _⟩ := h
    rfl
  · obtain ⟨A, s, R, n, rfl, O, hs, hn, q⟩ := h
    have h1 := hs.hl
    have h2 := hs.n6
    have h3 := hs.mks
    have h4 := hs.n3
    have h5 : ∀ p ∈ s.mks, p.2.length < 100000 := fun p hp => by have := hs.n4 p hp; omega
    have OO := house_split O
    clear O
    have O := house_join OO
    refine ⟨_, (pss_cons (ps_House_floor T (pv 0) (pe_callBK (cr_minD rfl hr.units) (by rfl) T.free_min (by decide +kernel) (pa_cons (pe_GM0 (ok_House_held (K := K) T) (pv 0) T.cls_House T.me_House_held gMHouse_held hr passL) pa_nil) (pk_cons (pe_House_now T (pv 0)) pk_nil)))
      (pss_one (ps_ret (pe_GM (ok_Makes_thrown (K := K) T) (pe_House_past T (pv 0)) T.cls_Makes T.me_Makes_thrown gMMakes_thrown hr passL (pa_cons (pe_House_floor T (pv 0)) pa_nil))))), ?_⟩
    try dsimp only [L2.cxOf]
    leaf_len
    intro H2 p O2
    clear O OO
    have O3 := house_split O2.f1
    clear O2
    reads_via
    rename_i H3 O4
    intro H4 M2 eM O5
    clear O3 O4
    rw [← eM] at O5
    exact q H4 ⟨A.p, A.dx, A.S, A.L, M2, A.g, A.gv, A.h⟩ rfl ((house_join (A := ⟨A.p, A.dx, A.S, A.L, M2, A.g, A.gv, A.h⟩) (s := s.sweep) (R := [Ce.m p (HO.lst (List.map V.int (heldF s.hl)))] :: R) O5.g3).drop1)
end
end SW
namespace SW
open PySem PySem.Spec PyProof.Rows L2
/-! ### the law's own table in the heap -/
structure PlA where
  d : Addr
  h : Addr
  m : Addr
  r : Addr
  ds : List Addr
  ls : List (List V × List Mk)
  rv : List V
def plE (A : PlA) (pl : Pl) : List (Key × V) :=
  [(.inr "now", .int pl.now), (.inr "floor", .int pl.floor), (.inr "marks", .int pl.marks), (.inr "holds", .ref A.h), (.inr "makes", .ref A.m), (.inr "rows", .ref A.r)]
def plainC (A : PlA) (pl : Pl) : List Ce :=
  .m A.d (.dK (plE A pl)) :: .m A.h (.lst (pl.holds.map V.int)) :: pu (A.ls.map (·.2) = pl.makes) :: (rowC mkRow A.m A.ds A.ls ++ tupsC rowE A.r A.rv pl.rows)
section
variable {H : Hp} {R : List (List Ce)} {A : PlA} {pl : Pl} {x : Int}
theorem plain_split (O : Own H (plainC A pl :: R)) : Own H ([.m A.d (.dK (plE A pl))] :: [.m A.h (.lst (pl.holds.map V.int))] :: rowC mkRow A.m A.ds A.ls :: tupsC rowE A.r A.rv pl.rows :: R) :=
  (Own.splitC (Own.splitC (Own.splitC O).f1).f1).drop.split.f2.f2.f1.f3.f1.f3.f1.f2
theorem plain_is (O : Own H (plainC A pl :: R)) : A.ls.map (·.2) = pl.makes := O.fact 0 2 rfl
theorem plain_join (O : Own H ([.m A.d (.dK (plE A pl))] :: [.m A.h (.lst (pl.holds.map V.int))] :: rowC mkRow A.m A.ds A.ls :: tupsC rowE A.r A.rv pl.rows :: R)) (h : A.ls.map (·.2) = pl.makes) : Own H (plainC A pl :: R) := by
  have O1 := O.addU h
  unfold plainC
  nest_room
theorem mk_at {k : Nat} (O : Own H (rowC mkRow A.m A.ds A.ls :: R)) (hls : A.ls.map (·.2) = pl.makes) (hk : k < pl.makes.length) :
    atI (A.ds.map V.ref) (k : Int) = some (.ref (A.ds.getD k 0)) ∧ H (A.ds.getD k 0) = some (.lst (A.ls.getD k ([], [])).1) ∧ areT mkE H (A.ls.getD k ([], [])).1 (pl.makes.getD k []) := by
  have hk2 : k < A.ls.length := by
    rw [← hls, List.length_map] at hk
    exact hk
  have hg : A.ls[k]? = some (A.ls.getD k ([], [])) := by rw [List.getD_eq_getElem?_getD, List.getElem?_eq_getElem hk2]; rfl
  have e : pl.makes.getD k [] = (A.ls.getD k ([], [])).2 := by
    rw [← hls, List.getD_eq_getElem?_getD, List.getElem?_map, hg]
    rfl
  have O1 := row_out O hg
  rw [e]
  exact ⟨atI_nat (row_at O hg), O1.at 0 0 rfl, O1.fact 0 1 rfl⟩
theorem areT_last {α : Type} {enc : α → List V} {vs : List V} {as : List α} {a : α} (h : areT enc H vs as) (e : as.getLast? = some a) : ∃ p, atI vs (-1) = some (.ref p) ∧ H p = some (.tup (enc a)) := by
  have hl := areT_len h
  rw [List.getLast?_eq_getElem?] at e
  obtain ⟨v, hv, p, rfl, hp⟩ := areT_get h e
  rw [← hl, ← List.getLast?_eq_getElem?] at hv
  obtain ⟨ys, e2⟩ := List.getLast?_eq_some_iff.mp hv
  rw [e2]
  exact ⟨p, atI_last ys _, hp⟩
theorem dg_now (h : H A.d = some (.dK (plE A pl))) : DGet H A.d (.str "now") (some (.int pl.now)) := .inl ⟨_, .inr "now", .inl h, rfl, by kernel_rfl⟩
theorem dg_floor (h : H A.d = some (.dK (plE A pl))) : DGet H A.d (.str "floor") (some (.int pl.floor)) := .inl ⟨_, .inr "floor", .inl h, rfl, by kernel_rfl⟩
theorem dg_marks (h : H A.d = some (.dK (plE A pl))) : DGet H A.d (.str "marks") (some (.int pl.marks)) := .inl ⟨_, .inr "marks", .inl h, rfl, by kernel_rfl⟩
theorem dg_holds (h : H A.d = some (.dK (plE A pl))) : DGet H A.d (.str "holds") (some (.ref A.h)) := .inl ⟨_, .inr "holds", .inl h, rfl, by kernel_rfl⟩
theorem dg_makes (h : H A.d = some (.dK (plE A pl))) : DGet H A.d (.str "makes") (some (.ref A.m)) := .inl ⟨_, .inr "makes", .inl h, rfl, by kernel_rfl⟩
theorem dg_rows (h : H A.d = some (.dK (plE A pl))) : DGet H A.d (.str "rows") (some (.ref A.r)) := .inl ⟨_, .inr "rows", .inl h, rfl, by kernel_rfl⟩
theorem dp_now (h : H A.d = some (.dK (plE A pl))) : DPut H A.d (.str "now") (.int x) (upd H A.d (.dK (plE A { pl with now := x }))) := .inl ⟨_, .inr "now", h, rfl, (by show 6 < sizeLine; decide), by kernel_rfl⟩
theorem dp_floor (h : H A.d = some (.dK (plE A pl))) : DPut H A.d (.str "floor") (.int x) (upd H A.d (.dK (plE A { pl with floor := x }))) := .inl ⟨_, .inr "floor", h, rfl, (by show 6 < sizeLine; decide), by kernel_rfl⟩
theorem dp_marks (h : H A.d = some (.dK (plE A pl))) : DPut H A.d (.str "marks") (.int x) (upd H A.d (.dK (plE A { pl with marks := x }))) := .inl ⟨_, .inr "marks", h, rfl, (by show 6 < sizeLine; decide), by kernel_rfl⟩
end
section
variable {P : Program} {w : World} {K : PySem.W.Frag} {mg : Str → Option Value} {base : Heap}
theorem len3 {ns : List Int} (h : ns.length = 3) : ∃ a b c, ns = [a, b, c] := by
  match ns, h with
  | [a, b, c], _ => exact ⟨a, b, c, rfl⟩
theorem len1 {ns : List Int} (h : ns.length = 1) : ∃ a, ns = [a] := by
  match ns, h with
  | [a], _ => exact ⟨a, rfl⟩
def sp_law_digit (K : PySem.W.Frag) : Sp := fun vs H Q _ => ∃ (d : Addr) (ns : List Int) (R : List (List Ce)) (b : Int), vs = [.ref d, .int b] ∧ Own H ([.m d (.lst (ns.map V.int))] :: R) ∧ CDivW 0 b ∧ (ns.length = 1 ∨ ns.length = 3) ∧
  ∀ H' (ms : List Int) (i : Int), ms.length = 3 → 0 ≤ i → i < b → Own H' ([.m d (.lst (ms.map V.int))] :: R) → Q (.int i) H'
theorem sc__law_digit : FnScope ["state", "base", "found", "number"] ["state", "base"] (defScope s__law_digit) := ⟨rfl, rfl, rfl, by decide +kernel, rfl, by decide +kernel, by decide +kernel⟩
theorem ok_law_digit (T : Txt K mg) : OkD P w K mg base 1 ("_law_digit", none) ["state", "base"] [] (sp_law_digit K) := by
  refine ok_of T.f__law_digit sc__law_digit (fun vs H Q E h => ?_) (fun dV kV doc pm an cdv ct us hl => match us, hl with | [_, _], _ => rfl) (fun cdv A outer s H vs Q E hr h => ?_)
  · obtain ⟨d, ns, R, b, rfl, _⟩ := h
    rfl
  · obtain ⟨d, ns, R, b, rfl, O, hbw, hl, q⟩ := h
    have hb : 0 < b := hbw.1
    refine ⟨_, (pss_cons (ps_if (pt_cmpR op_eq (pe_callB call_len_seq (by rfl) T.free_len (by decide +kernel) (pa_cons (pv 0) pa_nil)) pe_int (nomark _))
      (pss_one (ps_expr (pe_bm PySem.F.plainAttrs_list PySem.F.slot_list_extend PySem.F.type_list_extend mt_extend (pv 0) (pa_cons (pe_lst (pa_cons (pe_op op_mod (pe_ix (ix_listK (K := K) rfl) (pv 0) pe_int (fun _ _ => rfl)) pe_int) (pa_cons pe_int pa_nil))) pa_nil))))
      pss_nil)
      (pss_cons (ps_if (pt_cmpR op_gt (pe_ix (ix_listK (K := K) rfl) (pv 0) pe_int (fun _ _ => rfl)) pe_int (nomark _))
      (pss_cons (ps_set (i := 2) sc__law_digit.nd rfl (Or.inl rfl) (pe_op op_mod (pe_ix (ix_listK (K := K) rfl) (pv 0) pe_int (fun _ _ => rfl)) (pv 1)))
      (pss_cons (ps_asg (pe_op op_fdivW (pe_ix (ix_listK (K := K) rfl) (pv 0) pe_int (fun _ _ => rfl)) (pv 1)) (pg_sub (pv 0) pe_int set_list))
      (pss_one (ps_ret (pv 2)))))
      pss_nil)
      (pss_cons (ps_asg (pe_op op_add (pe_ix (ix_listK (K := K) rfl) (pv 0) pe_int (fun _ _ => rfl)) pe_int) (pg_sub (pv 0) pe_int set_list))
      (pss_cons (ps_set (i := 3) sc__law_digit.nd rfl (Or.inl rfl) (pe_op op_mod (pe_op op_mul (pe_op op_add (pe_op op_add (pe_ix (ix_listK (K := K) rfl) (pv 0) pe_int (fun _ _ => rfl)) (pe_op op_mul pe_int (pe_ix (ix_listK (K := K) rfl) (pv 0) pe_int (fun _ _ => rfl)))) pe_int) pe_int) pe_int))
      (pss_cons (ps_set (i := 3) sc__law_digit.nd rfl (Or.inl rfl) (pe_op op_mod (pe_op op_mul (pv 3) (pe_op op_add (pe_op op_fdiv (pv 3) pe_int) pe_int)) pe_int))
      (pss_one (ps_ret (pe_op op_mod (pe_op op_mod (pe_op op_mul (pv 3) (pe_op op_add (pe_op op_fdiv (pv 3) pe_int) pe_int)) pe_int) (pv 1))))))))), ?_⟩
    try dsimp only [L2.cxOf]
    have st : ∃ a b1 c, ns = [a] ∧ b1 = a % 2147483647 ∧ c = 0 ∨ ns = [a, b1, c] := by
      rcases hl with hl | hl
      · obtain ⟨a, rfl⟩ := len1 hl
        exact ⟨a, _, _, .inl ⟨rfl, rfl, rfl⟩⟩
      · obtain ⟨a, b1, c, rfl⟩ := len3 hl
        exact ⟨a, b1, c, .inr rfl⟩
    clear hl
    obtain ⟨a, b1, c, hl⟩ := st
    rcases hl with ⟨rfl, eb, ec⟩ | rfl
    · leaf_len
      refine ⟨(by show 1 + 2 ≤ sizeLine; decide), ?_⟩
      mem_news
      rename_i H1 O1
      replace O1 : Own H1 ([.m d (.lst ([a, b1, c].map V.int))] :: R) := by
        rw [eb, ec]
        exact O1.drop1
      clear O eb ec
      by_cases hp : 0 < a
      · reads_via
        rename_i H2 O2
        exact q H2 [a / b, b1, c] _ rfl (Int.emod_nonneg _ (by omega)) (Int.emod_lt_of_pos _ hb) O2
      · reads_via
        rename_i H2 O2
        exact q H2 [a, b1, c + 1] _ rfl (Int.emod_nonneg _ (by omega)) (Int.emod_lt_of_pos _ hb) O2
    · have O1 := O
      clear O
      by_cases hp : 0 < a
      · reads_via
        rename_i H2 O2
        exact q H2 [a / b, b1, c] _ rfl (Int.emod_nonneg _ (by omega)) (Int.emod_lt_of_pos _ hb) O2
      · reads_via
        rename_i H2 O2
        exact q H2 [a, b1, c + 1] _ rfl (Int.emod_nonneg _ (by omega)) (Int.emod_lt_of_pos _ hb) O2
end
end SW
open PySem PySem.Spec PyProof.Rows L2 in
local macro_rules | `(tactic| top_raise) => `(tactic| first
  | (refine And.intro (SW.dg_now (pl := ?l) ?h) ?_; case h => nest_cls) | (refine And.intro (SW.dg_floor (pl := ?l) ?h) ?_; case h => nest_cls) | (refine And.intro (SW.dg_marks (pl := ?l) ?h) ?_; case h => nest_cls)
  | (refine And.intro (SW.dg_holds (pl := ?l) ?h) ?_; case h => nest_cls) | (refine And.intro (SW.dg_makes (pl := ?l) ?h) ?_; case h => nest_cls) | (refine And.intro (SW.dg_rows (pl := ?l) ?h) ?_; case h => nest_cls)
  | (refine And.intro (SW.dp_now (pl := ?l) ?h) ?_; case h => nest_cls) | (refine And.intro (SW.dp_floor (pl := ?l) ?h) ?_; case h => nest_cls) | (refine And.intro (SW.dp_marks (pl := ?l) ?h) ?_; case h => nest_cls)
  | regstrif_slice)
open PySem PySem.Spec PyProof.Rows L2 in
local macro_rules | `(tactic| top_raise0) => `(tactic| repeat (top_raise))
open PySem PySem.Spec PyProof.Rows L2 in
local macro_rules | `(tactic| top_name) => `(tactic| first | ((fail_if_success (with_reducible apply And.intro)); (fail_if_success (with_reducible apply Exists.intro)); mem_news) | top_raise)
open PySem PySem.Spec PyProof.Rows L2 in
local macro_rules | `(tactic| one_sign) => `(tactic| repeat (top_name))

namespace SW
open PySem PySem.Spec PyProof.Rows L2
section
variable {P : Program} {w : World} {K : PySem.W.Frag} {mg : Str → Option Value} {base : Heap}
def sp_law_begun (K : PySem.W.Frag) : Sp := fun vs H Q _ => ∃ (R : List (List Ce)), vs = [] ∧ Own H R ∧ ∀ H' A, Own H' (plainC A Pl.new :: R) → Q (.ref A.d) H'
theorem sc__law_begun : FnScope ["key"] [] (defScope s__law_begun) := ⟨rfl, rfl, rfl, by decide +kernel, rfl, by decide +kernel, by decide +kernel⟩
theorem ok_law_begun (T : Txt K mg) : OkD P w K mg base 1 ("_law_begun", none) [] [] (sp_law_begun K) := by
  refine ok_of T.f__law_begun sc__law_begun (fun vs H Q E h => ?_) (fun dV kV doc pm an cdv ct us hl => match us, hl with | [], _ => rfl) (fun cdv A outer s H vs Q E hr h => ?_)
  · obtain ⟨R, rfl, _⟩ := h
    rfl
  · obtain ⟨R, rfl, O, q⟩ := h
    refine ⟨_, (pss_one (ps_ret (pe_disp (pps_cons pe_str pe_int (pps_cons pe_str pe_int (pps_cons pe_str pe_int (pps_cons pe_str (pe_lst pa_nil) (pps_cons pe_str (pe_lc (own := [("key", 0)]) rfl sc__law_begun.nd (pi_range1 (by rfl) T.free_range (pa_cons pe_int pa_nil)) (blkOk_by (own := [("key", 0)]) (N := ["key"]) (sc := defScope s__law_begun) (by decide +kernel)) (fun _ _ _ _ _ => (pg_name (i := 0) sc__law_begun.nd rfl (Or.inl rfl))) (fun _ _ _ _ _ => pts_nil) (fun _ _ _ _ _ => (pe_lst pa_nil))) (pps_cons pe_str (pe_lst pa_nil) pps_nil)))))) (by rfl) (by rfl) (fun z => by cases z) (by decide)))), ?_⟩
    try dsimp only [L2.cxOf]
    leaf_len
    rename_i p0 hp0 H0 O0 p1 hp1 H1 O1 p2 hp2 H2 O2
    refine lcR (fun i H3 => ∃ ds, Own H3 (rowC mkRow p2 ds (List.replicate i ([], [])) :: [.m p1 (.lst [])] :: [.m p0 (.dK [])] :: R)) ⟨[], row_nil O2⟩ ?_ ?_
    · rintro i H3 hi ⟨ds, O3⟩
      have hl := row_lenV O3
      rw [List.length_replicate] at hl
      leaf_len
      rename_i p3 hp3 H4 O4
      refine ⟨small_size (by have : (Int.toNat 8) = 8 := rfl; omega), ?_⟩
      generalize hh : upd H4 _ _ = H5
      have O5 := row_app (f := mkRow) (d := p3) (l := ([], [])) (tups_nil O4) hh
      rw [← List.replicate_succ'] at O5
      exact ⟨_, O5⟩
    · rintro H3 ⟨ds, O3⟩
      leaf_len
      rename_i p3 hp3 H4 O4
      have em : mergeK [] (plE ⟨p0, p1, p2, p3, ds, List.replicate 8 ([], []), []⟩ Pl.new) = plE ⟨p0, p1, p2, p3, ds, List.replicate 8 ([], []), []⟩ Pl.new := by kernel_rfl
      refine ⟨(rfl : _ = List.map (fun kv => (kV kv.1, kv.2)) (plE ⟨p0, p1, p2, p3, ds, List.replicate 8 ([], []), []⟩ Pl.new)), by show 6 ≤ 15; decide, ?_⟩
      rw [em]
      generalize hh : upd H4 _ _ = H5
      have O5 := (tups_nil (enc := rowE) O4).f3.genS hh
      refine q H5 ⟨p0, p1, p2, p3, ds, List.replicate 8 ([], []), []⟩ (plain_join (A := ⟨p0, p1, p2, p3, ds, List.replicate 8 ([], []), []⟩) (pl := Pl.new) O5.f3.f1.f3.g2 ?_)
      show (List.replicate 8 (([] : List V), ([] : List Mk))).map (·.2) = List.replicate 8 []
      rw [List.map_replicate]
def sp_law_last (K : PySem.W.Frag) : Sp := fun vs H Q _ => ∃ (A : PlA) (pl : Pl) (R : List (List Ce)) (k : Nat), vs = [.ref A.d, .int k] ∧ Own H (plainC A pl :: R) ∧ k < pl.makes.length ∧ pl.makes.length = 8 ∧
  ∀ H', Own H' (plainC A pl :: R) → Q (oV (lastF (pl.makes.getD k []))) H'
theorem sc__law_last : FnScope ["plain", "key", "makes"] ["plain", "key"] (defScope s__law_last) := ⟨rfl, rfl, rfl, by decide +kernel, rfl, by decide +kernel, by decide +kernel⟩
theorem ok_law_last (T : Txt K mg) : OkD P w K mg base 1 ("_law_last", none) ["plain", "key"] [] (sp_law_last K) := by
  refine ok_of T.f__law_last sc__law_last (fun vs H Q E h => ?_) (fun dV kV doc pm an cdv ct us hl => match us, hl with | [_, _], _ => rfl) (fun cdv A outer s H vs Q E hr h => ?_)
  · obtain ⟨A, pl, R, k, rfl, _⟩ := h
    rfl
  · obtain ⟨A, pl, R, k, rfl, O, hk, h8, q⟩ := h
    have O1 := plain_split O
    have hls := plain_is O
    refine ⟨_, (pss_cons (ps_set (i := 2) sc__law_last.nd rfl (Or.inl rfl) (pe_ix (ix_listK (K := K) rfl) (pe_dget (hu_of hr) (pv 0) pe_str (fun _ _ => rfl)) (pv 1) (fun _ _ => rfl)))
      (pss_cons (ps_if (pt_cmpR (op_eqD hr.units) (pv 2) (pe_lst pa_nil) (nomark _))
      (pss_one (ps_ret pe_non))
      pss_nil)
      (pss_one (ps_ret (pe_ix (ix_tupK (K := K) rfl) (pe_ix (ix_listK (K := K) rfl) (pv 2) (pe_un un_neg pe_int) (fun _ _ => rfl)) pe_int (fun _ _ => rfl)))))), ?_⟩
    try dsimp only [L2.cxOf]
    have hm := mk_at O1.f2 hls hk
    top_raise0
    refine ⟨hm.1, ?_⟩
    top_raise0
    rename_i p hp H2 O2
    have hm2 := mk_at (pl := pl) O2.f3 hls hk
    refine eqD_of ((areT_da mk_da hm2.2.2).list hm2.2.1) (DA.nil.list (O2.at 0 0 rfl)) (by decide) ?_
    have q := q H2 (plain_join O2.drop hls)
    unfold lastF at q
    cases hl : (pl.makes.getD k []).getLast? with
    | none =>
      have e0 : pl.makes.getD k [] = [] := List.getLast?_eq_none_iff.mp hl
      rw [hl] at q
      leaf_len
      exact q
    | some m =>
      have e0 : ¬ pl.makes.getD k [] = [] := fun e => by rw [e] at hl; cases hl
      obtain ⟨p2, h2, h3⟩ := areT_last hm2.2.2 hl
      rw [hl] at q
      have h4 := hm2.2.1
      leaf_len
      exact q
end
end SW
namespace SW
open PySem PySem.Spec PyProof.Rows L2
section
variable {H H' : Hp} {R : List (List Ce)} {A : PlA} {pl : Pl} {v : V} {m : Mk} {k : Nat}
theorem mk_push (O : Own H (rowC mkRow A.m A.ds A.ls :: R)) (hls : A.ls.map (·.2) = pl.makes) (hk : k < pl.makes.length) (ht : isT mkE H v m) (e : upd H (A.ds.getD k 0) (.lst ((A.ls.getD k ([], [])).1 ++ [v])) = H') :
    ∃ ls, Own H' (rowC mkRow A.m A.ds ls :: R) ∧ ls.map (·.2) = pl.makes.set k (pl.makes.getD k [] ++ [m]) := by
  have hk2 : k < A.ls.length := by
    rw [← hls, List.length_map] at hk
    exact hk
  have hg : A.ls[k]? = some (A.ls.getD k ([], [])) := by rw [List.getD_eq_getElem?_getD, List.getElem?_eq_getElem hk2]; rfl
  have e2 : pl.makes.getD k [] = (A.ls.getD k ([], [])).2 := by
    rw [← hls, List.getD_eq_getElem?_getD, List.getElem?_map, hg]
    rfl
  generalize A.ls.getD k ([], []) = l at *
  have hl := row_len O
  have O1 := row_out O hg
  have O2 := tups_push (enc := mkE) (d := A.ds.getD k 0) (vs := l.1) (as := l.2) O1 ht e
  refine ⟨A.ls.set k (l.1 ++ [v], l.2 ++ [m]), row_in (f := mkRow) (l := (l.1 ++ [v], l.2 ++ [m])) O2 hl hk2, ?_⟩
  rw [List.map_set, hls, e2]
end
theorem two_mlen {s : Ho} {n : Nat} (h : Two pl s n) (hk : k < 8) : (pl.makes.getD k []).length ≤ n := by
  rw [← h.mks k hk]
  cases e : aget s.mks k with
  | none => exact Nat.zero_le _
  | some ms => exact h.ok.n4 _ (aget_mem e)
section
variable {P : Program} {w : World} {K : PySem.W.Frag} {mg : Str → Option Value} {base : Heap}
def sp_law_changed (K : PySem.W.Frag) : Sp := fun vs H Q _ => ∃ (A : PlA) (B : HoA) (pl : Pl) (s : Ho) (R : List (List Ce)) (k : Nat) (o : Option Int) (n : Nat), vs = [.ref A.d, .ref B.p, .int k, oV o] ∧ Own H (plainC A pl :: houseC K B s :: R) ∧ Two pl s n ∧ n < 50 ∧ k < 8 ∧
  (o = none → lastF (pl.makes.getD k []) ≠ none) ∧ ∀ H' A' B' pl' s', A'.d = A.d → B'.p = B.p → Two pl' s' (n + 1) → Own H' (plainC A' pl' :: houseC K B' s' :: R) → Q (.bl true) H'
theorem sc__law_changed : FnScope ["plain", "house", "key", "value"] ["plain", "house", "key", "value"] (defScope s__law_changed) := ⟨rfl, rfl, rfl, by decide +kernel, rfl, by decide +kernel, by decide +kernel⟩
theorem ok_law_changed (T : Txt K mg) : OkD P w K mg base 8 ("_law_changed", none) ["plain", "house", "key", "value"] [] (sp_law_changed K) := by
  refine ok_of T.f__law_changed sc__law_changed (fun vs H Q E h => ?_) (fun dV kV doc pm an cdv ct us hl => match us, hl with | [_, _, _, _], _ => rfl) (fun cdv A outer s H vs Q E hr h => ?_)
  · obtain ⟨A, B, pl, s, R, k, o, n, rfl, _⟩ := h
    rfl
  · obtain ⟨A, B, pl, s, R, k, o, n, rfl, O, tw, hn, hk, ho, q⟩ := h
    have O1 := plain_split O
    have hls := plain_is O
    have hkl : k < pl.makes.length := by rw [tw.len]; exact hk
    have hrl := areT_len (tups_is O1.f3)
    have hrz := tw.ok.n5
    rw [tw.rows] at hrz
    clear O
    refine ⟨_, (pss_cons (ps_dput (hu_of hr) (pv 0) pe_str (pe_op op_add (pe_dget (hu_of hr) (pv 0) pe_str (fun _ _ => rfl)) pe_int) rfl)
      (pss_cons (ps_expr (pe_bm PySem.F.plainAttrs_list PySem.F.slot_list_append PySem.F.type_list_append mt_append (pe_ix (ix_listK (K := K) rfl) (pe_dget (hu_of hr) (pv 0) pe_str (fun _ _ => rfl)) (pv 2) (fun _ _ => rfl)) (pa_cons (pe_tup (pa_cons (pe_dget (hu_of hr) (pv 0) pe_str (fun _ _ => rfl)) (pa_cons (pv 3) pa_nil))) pa_nil)))
      (pss_cons (ps_if (pt_cmpR op_isN (pv 3) pe_non (nomark _))
      (pss_cons (ps_expr (pe_bm PySem.F.plainAttrs_list PySem.F.slot_list_append PySem.F.type_list_append mt_append (pe_dget (hu_of hr) (pv 0) pe_str (fun _ _ => rfl)) (pa_cons (pe_tup (pa_cons pe_str (pa_cons (pv 2) pa_nil))) pa_nil)))
      (pss_one (ps_ret (pe_cmpR op_eq (pe_GM (ok_House_drop (K := K) T) (pv 1) T.cls_House T.me_House_drop gMHouse_drop hr passL (pa_cons (pv 2) pa_nil)) (pe_dget (hu_of hr) (pv 0) pe_str (fun _ _ => rfl)) (nomark _)))))
      pss_nil)
      (pss_cons (ps_expr (pe_bm PySem.F.plainAttrs_list PySem.F.slot_list_append PySem.F.type_list_append mt_append (pe_dget (hu_of hr) (pv 0) pe_str (fun _ _ => rfl)) (pa_cons (pe_tup (pa_cons pe_str (pa_cons (pv 2) (pa_cons (pv 3) pa_nil)))) pa_nil)))
      (pss_one (ps_ret (pe_cmpR op_eq (pe_GM (ok_House_put (K := K) T) (pv 1) T.cls_House T.me_House_put gMHouse_put hr passL (pa_cons (pv 2) (pa_cons (pv 3) pa_nil))) (pe_dget (hu_of hr) (pv 0) pe_str (fun _ _ => rfl)) (nomark _)))))))), ?_⟩
    try dsimp only [L2.cxOf]
    one_sign
    rename_i H1 O2
    have hm := mk_at (pl := pl) O2.f2 hls hkl
    refine ⟨hm.1, ?_⟩
    top_raise0
    refine ⟨.inl ⟨rfl, _, .of hm.2.1⟩, ?_⟩
    top_raise0
    rename_i t ht H2 O3
    have hm2 := mk_at (pl := pl) O3.f3 hls hkl
    have hml := areT_len hm2.2.2
    have hmn := two_mlen tw hk
    refine ⟨hm2.2.1, small_size (by omega), ?_⟩
    generalize hh : upd H2 _ _ = H3
    obtain ⟨ls, O4, hls2⟩ := mk_push (pl := pl) (m := (pl.now + 1, o)) O3.f3 hls hkl ⟨t, rfl, O3.tup 0 0 rfl⟩ hh
    have O5 := O4.f2.f2.drop
    clear hm hm2 hh O1 O2 O3 O4
    have hok := tw.ok
    cases o with
    | none =>
      have e1 : oV none = V.non := rfl
      have hlk : (s.sl.look k).isSome = true := by
        have := ho rfl
        rw [← tw.look k hk] at this
        cases e : s.sl.look k with
        | none => exact absurd e this
        | some v => rfl
      top_raise0
      rename_i t2 ht2 H4 O6
      refine ⟨small_size (by omega), ?_⟩
      generalize hh : upd H4 _ _ = H5
      have O7 := tups_push (a := rDrop k) O6.f4 ⟨t2, rfl, O6.tup 0 0 rfl⟩ hh
      have O8 := O7.f1.drop
      clear O5 O6 O7 hh
      top_raise0
      intro H6 B2 eB O9
      clear O8
      top_raise0
      rw [tw.now, decide_eq_true rfl]
      exact q H6 ⟨A.d, A.h, A.m, A.r, A.ds, ls, A.rv ++ [V.ref t2]⟩ B2 (pl.change k (rDrop k) (none)) (s.drop k) rfl eB (two_drop tw hk (ho rfl)) (plain_join (A := ⟨A.d, A.h, A.m, A.r, A.ds, ls, A.rv ++ [V.ref t2]⟩) (pl := pl.change k (rDrop k) (none)) O9.f1.f3.f4.f4 hls2)
    | some v =>
      have e1 : ¬ oV (some v) = V.non := fun e => by cases e
      top_raise0
      rename_i t2 ht2 H4 O6
      refine ⟨small_size (by omega), ?_⟩
      generalize hh : upd H4 _ _ = H5
      have O7 := tups_push (a := rPut k v) O6.f4 ⟨t2, rfl, O6.tup 0 0 rfl⟩ hh
      have O8 := O7.f1.drop
      clear O5 O6 O7 hh
      top_raise0
      intro H6 B2 eB O9
      clear O8
      top_raise0
      rw [tw.now, decide_eq_true rfl]
      exact q H6 ⟨A.d, A.h, A.m, A.r, A.ds, ls, A.rv ++ [V.ref t2]⟩ B2 (pl.change k (rPut k v) (some v)) (s.put k v) rfl eB (two_put tw hk) (plain_join (A := ⟨A.d, A.h, A.m, A.r, A.ds, ls, A.rv ++ [V.ref t2]⟩) (pl := pl.change k (rPut k v) (some v)) O9.f1.f3.f4.f4 hls2)
end
end SW
namespace SW
open PySem PySem.Spec PyProof.Rows L2
def Pl.sw (pl : Pl) (f : Int) (i : Nat) : Pl := { pl with floor := f, makes := (pl.makes.take i).map (fun ms => needF ms f) ++ pl.makes.drop i }
section
variable {pl : Pl} {f : Int} {i : Nat}
theorem sw_zero : pl.sw f 0 = { pl with floor := f } := rfl
theorem sw_end (h : pl.makes.length = 8) : pl.sw f 8 = pl.swept f := by
  unfold Pl.sw Pl.swept
  rw [← h, List.take_length, List.drop_length, List.append_nil]
theorem sw_len : (pl.sw f i).makes.length = pl.makes.length := by
  unfold Pl.sw
  dsimp only
  rw [List.length_append, List.length_map, List.length_take, List.length_drop]
  omega
theorem sw_get (h : i < pl.makes.length) : (pl.sw f i).makes.getD i [] = pl.makes.getD i [] := by
  unfold Pl.sw
  dsimp only
  rw [List.getD_eq_getElem?_getD, List.getElem?_append_right (by rw [List.length_map, List.length_take]; omega), List.length_map, List.length_take, List.getElem?_drop, List.getD_eq_getElem?_getD]
  rw [show i + (i - min i pl.makes.length) = i by omega]
theorem sw_set (h : i < pl.makes.length) : (pl.sw f i).makes.set i (needF (pl.makes.getD i []) f) = (pl.sw f (i + 1)).makes := by
  unfold Pl.sw
  dsimp only
  have hl : ((pl.makes.take i).map fun ms => needF ms f).length = i := by rw [List.length_map, List.length_take]; omega
  rw [List.set_append_right _ _ (by omega), hl, Nat.sub_self, List.drop_eq_getElem_cons h, List.set_cons_zero, List.take_add_one, List.getElem?_eq_getElem h, List.map_append, List.append_assoc, List.getD_eq_getElem?_getD, List.getElem?_eq_getElem h]
  rfl
theorem less_snoc (h : i < pl.makes.length) : ((pl.makes.take (i + 1)).map (lessF f)).sum = ((pl.makes.take i).map (lessF f)).sum + lessF f (pl.makes.getD i []) := by
  rw [List.take_add_one, List.getElem?_eq_getElem h, List.map_append, List.sum_append, List.getD_eq_getElem?_getD, List.getElem?_eq_getElem h]
  simp
end
theorem cut_last (xs : List V) : cutV xs (some (-1)) none = xs.drop (xs.length - 1) := by
  unfold cutV HT.sIx
  dsimp only
  rw [if_pos (by omega)]
  rw [List.take_of_length_le (by rw [List.length_drop]; omega)]
  congr 1
  omega
theorem tail_len {α : Type} (l : List α) : (l.drop (l.length - 1)).length ≤ 1 := by
  rw [List.length_drop]
  omega
theorem need_stay (ms : List Mk) (f : Int) : ((ms.filter fun m => decide (m.1 ≤ f)).drop ((ms.filter fun m => decide (m.1 ≤ f)).length - 1)).filter (fun m => m.2.isSome) ++ (ms.filter fun m => decide (f < m.1)) = needF ms f := by
  unfold needF
  generalize (ms.filter fun m => decide (m.1 ≤ f)) = old
  generalize (ms.filter fun m => decide (f < m.1)) = late
  cases h : old.getLast? with
  | none =>
    have e : old = [] := List.getLast?_eq_none_iff.mp h
    rw [e]
    rfl
  | some m =>
    obtain ⟨ys, e⟩ := List.getLast?_eq_some_iff.mp h
    have e2 : old.drop (old.length - 1) = [m] := by
      rw [e, List.length_append, List.length_singleton, Nat.add_sub_cancel, List.drop_left]
    rw [e2]
    obtain ⟨t, o⟩ := m
    cases o <;> rfl
theorem parts_len (ms : List Mk) (f : Int) : (ms.filter fun m => decide (m.1 ≤ f)).length + (ms.filter fun m => decide (f < m.1)).length = ms.length := by
  induction ms with
  | nil => rfl
  | cons m ms ih =>
    by_cases c : m.1 ≤ f
    · rw [List.filter_cons, if_pos (decide_eq_true c), List.filter_cons, if_neg (by simpa using c), List.length_cons, List.length_cons]
      omega
    · rw [List.filter_cons, if_neg (by simpa using c), List.filter_cons, if_pos (by simp; omega), List.length_cons, List.length_cons]
      omega
section
variable {P : Program} {w : World} {K : PySem.W.Frag} {mg : Str → Option Value} {base : Heap}
def sp_law_swept (K : PySem.W.Frag) : Sp := fun vs H Q _ => ∃ (A : PlA) (B : HoA) (pl : Pl) (s : Ho) (R : List (List Ce)) (n : Nat), vs = [.ref A.d, .ref B.p] ∧ Own H (plainC A pl :: houseC K B s :: R) ∧ Two pl s n ∧ n < 50 ∧
  ∀ H' A' B' pl' s', A'.d = A.d → B'.p = B.p → Two pl' s' (n + 1) → Own H' (plainC A' pl' :: houseC K B' s' :: R) → Q (.bl true) H'
theorem sc__law_swept : FnScope ["plain", "house", "many", "key", "make", "old", "late", "stay"] ["plain", "house"] (defScope s__law_swept) := ⟨rfl, rfl, rfl, by decide +kernel, rfl, by decide +kernel, by decide +kernel⟩
theorem ok_law_swept (T : Txt K mg) : OkD P w K mg base 8 ("_law_swept", none) ["plain", "house"] [] (sp_law_swept K) := by
  refine ok_of T.f__law_swept sc__law_swept (fun vs H Q E h => ?_) (fun dV kV doc pm an cdv ct us hl => match us, hl with | [_, _], _ => rfl) (fun cdv A outer s H vs Q E hr h => ?_)
  · obtain ⟨A, B, pl, s, R, n, rfl, _⟩ := h
    rfl
  · obtain ⟨A, B, pl, s, R, n, rfl, O, tw, hn, q⟩ := h
    have O1 := plain_split O
    have hls := plain_is O
    have hz := tw.hz
    clear O
    refine ⟨_, (pss_cons (ps_dput (hu_of hr) (pv 0) pe_str (pe_callB (cr_min rfl) (by rfl) T.free_min (by decide +kernel) (pa_cons (pe_op op_cat (pe_dget (hu_of hr) (pv 0) pe_str (fun _ _ => rfl)) (pe_lst (pa_cons (pe_dget (hu_of hr) (pv 0) pe_str (fun _ _ => rfl)) pa_nil))) pa_nil)) rfl)
      (pss_cons (ps_set (i := 2) sc__law_swept.nd rfl (Or.inl rfl) pe_int)
      (pss_cons (ps_for (passes_of rfl) rfl (pi_range1 (by rfl) T.free_range (pa_cons pe_int pa_nil)) (pg_name (i := 3) sc__law_swept.nd rfl (Or.inl rfl))
      (pss_cons (ps_setLc (i := 5) (own := [("make", 4)]) rfl sc__law_swept.nd rfl rfl (sw_true rfl rfl rfl (by decide +kernel)) (pi_list (pe_ix (ix_listK (K := K) rfl) (pe_dget (hu_of hr) (pv 0) pe_str (fun _ _ => rfl)) (pv 3) (fun _ _ => rfl))) (blkOk_by (own := [("make", 4)]) (N := ["plain", "house", "many", "key", "make", "old", "late", "stay"]) (sc := defScope s__law_swept) (by decide +kernel)) (fun _ _ _ _ _ => (pg_name (i := 4) sc__law_swept.nd rfl (Or.inl rfl))) (fun _ _ _ _ _ => (pts_one (pt_cmpR op_le (pe_ix (ix_tupK (K := K) rfl) (pv 4) pe_int (fun _ _ => rfl)) (pe_dget (hu_of hr) (pv 0) pe_str (fun _ _ => rfl)) (nomark _)))) (fun _ _ _ _ _ => (pv 4)))
      (pss_cons (ps_setLc (i := 6) (own := [("make", 4)]) rfl sc__law_swept.nd rfl rfl (sw_true rfl rfl rfl (by decide +kernel)) (pi_list (pe_ix (ix_listK (K := K) rfl) (pe_dget (hu_of hr) (pv 0) pe_str (fun _ _ => rfl)) (pv 3) (fun _ _ => rfl))) (blkOk_by (own := [("make", 4)]) (N := ["plain", "house", "many", "key", "make", "old", "late", "stay"]) (sc := defScope s__law_swept) (by decide +kernel)) (fun _ _ _ _ _ => (pg_name (i := 4) sc__law_swept.nd rfl (Or.inl rfl))) (fun _ _ _ _ _ => (pts_one (pt_cmpR op_gt (pe_ix (ix_tupK (K := K) rfl) (pv 4) pe_int (fun _ _ => rfl)) (pe_dget (hu_of hr) (pv 0) pe_str (fun _ _ => rfl)) (nomark _)))) (fun _ _ _ _ _ => (pv 4)))
      (pss_cons (ps_setLc (i := 7) (own := [("make", 4)]) rfl sc__law_swept.nd rfl rfl (sw_true rfl rfl rfl (by decide +kernel)) (pi_list (pe_slice sl_list (pv 5) (po_some (pe_un un_neg pe_int)) po_none)) (blkOk_by (own := [("make", 4)]) (N := ["plain", "house", "many", "key", "make", "old", "late", "stay"]) (sc := defScope s__law_swept) (by decide +kernel)) (fun _ _ _ _ _ => (pg_name (i := 4) sc__law_swept.nd rfl (Or.inl rfl))) (fun _ _ _ _ _ => (pts_one (pt_cmpR op_notN (pe_ix (ix_tupK (K := K) rfl) (pv 4) pe_int (fun _ _ => rfl)) pe_non (nomark _)))) (fun _ _ _ _ _ => (pv 4)))
      (pss_cons (ps_set (i := 2) sc__law_swept.nd rfl (Or.inl rfl) (pe_op op_sub (pe_op op_add (pv 2) (pe_callB call_len_seq (by rfl) T.free_len (by decide +kernel) (pa_cons (pv 5) pa_nil))) (pe_callB call_len_seq (by rfl) T.free_len (by decide +kernel) (pa_cons (pv 7) pa_nil))))
      (pss_one (ps_asg (pe_op op_cat (pv 7) (pv 6)) (pg_sub (pe_dget (hu_of hr) (pv 0) pe_str (fun _ _ => rfl)) (pv 3) set_list))))))))
      (pss_one (ps_ret (pe_cmpR op_eq (pe_GM0 (ok_House_sweep (K := K) T) (pv 1) T.cls_House T.me_House_sweep gMHouse_sweep hr passL) (pv 2) (nomark _))))))), ?_⟩
    try dsimp only [L2.cxOf]
    top_raise0
    refine ⟨Nat.le_of_lt (small_size (by rw [List.length_map]; show pl.holds.length + 1 ≤ 100000; omega)), ?_⟩
    regstrif_fact
    rename_i p2 hp2 H2 O2
    rw [show List.map V.int pl.holds ++ [V.int pl.now] = (pl.holds ++ [pl.now]).map V.int by rw [List.map_append]; rfl] at O2
    have hq := O2.at 0 0 rfl
    top_raise0
    refine ⟨by simp, fun f hf1 hf2 => ?_⟩
    have hfl := two_floor tw hf1 hf2
    have O3 := O2.drop.drop
    clear O1 O2 hq
    top_raise0
    generalize hh : upd H2 _ _ = H3
    have O4 := O3.genS hh
    have O5 : Own H3 (plainC A (pl.sw f 0) :: houseC K B s :: R) := plain_join (pl := pl.sw f 0) O4 hls
    clear O3 O4 hh hp2
    refine forR (lo := 0) (n := 8) (fun i σ H4 => Stp (∃ a0 a1 a2 a3 a4 A2, A2.d = A.d ∧ σ = [some (V.ref A.d), some (V.ref B.p), some (V.int ((pl.makes.take i).map (lessF f)).sum), a0, a1, a2, a3, a4] ∧ Own H4 (plainC A2 (pl.sw f i) :: houseC K B s :: R)))
      ⟨_, _, _, _, _, A, rfl, rfl, O5⟩ ?_ ?_
    · rintro i σ H4 hi ⟨a0, a1, a2, a3, a4, A2, e2, rfl, O6⟩
      rw [Int.zero_add, ← e2]
      have hls2 := plain_is O6
      have O7 := plain_split O6
      have hil : i < pl.makes.length := by rw [tw.len]; exact hi
      have hk : i < (pl.sw f i).makes.length := by rw [sw_len]; exact hil
      have hg := sw_get (f := f) hil
      have hset := sw_set (f := f) hil
      have hfl2 : (pl.sw f i).floor = f := rfl
      have hmn := two_mlen tw hi
      rw [less_snoc hil]
      have hrest : ∀ x, { pl.sw f i with makes := x } = { pl.sw f (i + 1) with makes := x } := fun x => rfl
      generalize hsw2 : pl.sw f (i + 1) = pl3 at *
      generalize pl.sw f i = pl2 at *
      generalize ((pl.makes.take i).map (lessF f)).sum = many at *
      have hm := mk_at (pl := pl2) O7.f2 hls2 hk
      rw [hg] at hm
      have hml := areT_len hm.2.2
      have hat : ∀ {H : Hp} {R' : List (List Ce)}, Own H (rowC mkRow A2.m A2.ds A2.ls :: R') → H (A2.ds.getD i 0) = some (.lst (A2.ls.getD i ([], [])).1) ∧ areT mkE H (A2.ls.getD i ([], [])).1 (pl.makes.getD i []) := fun O => by
        have z := mk_at (pl := pl2) O hls2 hk
        rw [hg] at z
        exact z.2
      generalize pl.makes.getD i [] = ms at *
      clear O5 O6
      top_raise0
      refine ⟨hm.1, ?_⟩
      top_raise0
      refine ⟨⟨_, SqL.of hm.2.1⟩, ?_⟩
      regstrif_fact
      rename_i D hD H5 O8
      generalize hvs : (A2.ls.getD i ([], [])).1 = vs at *
      generalize hda : A2.ds.getD i 0 = da at *
      have hms : vs.length = ms.length := hml
      refine lcL (xs := vs) (fun j H6 => ∃ ws, Own H6 (tupsC mkE D ws ((ms.take j).filter fun m => decide (m.1 ≤ f)) :: [.m A2.d (.dK (plE A2 pl2))] :: [.m A2.h (.lst (pl2.holds.map V.int))] :: rowC mkRow A2.m A2.ds A2.ls :: tupsC rowE A2.r A2.rv pl2.rows :: houseC K B s :: R)) ⟨[], tups_nil O8⟩ (fun j H6 hj ⟨ws, O9⟩ => SqL.of (hat O9.f3).1) ?_ ?_
      · rintro j x H6 hx3 ⟨ws, O9⟩
        have h4 := (hat O9.f3).2
        obtain ⟨m, hm9, p9, rfl, hp9⟩ := areT_getV h4 hx3
        rw [mem_filter_app hm9]
        have hwl := areT_len (tups_is O9)
        have hfl := List.length_filter_le (fun m : Mk => decide (m.1 ≤ f)) (ms.take j)
        rw [List.length_take] at hfl
        top_raise0
        rw [hfl2]
        top_raise0
        by_cases hc : m.1 ≤ f
        · rw [decide_eq_true hc, if_pos rfl]
          top_raise0
          refine ⟨small_size (by omega), _, tups_push O9 ⟨p9, rfl, hp9⟩ rfl⟩
        · rw [decide_eq_false hc]
          exact ⟨ws, by rw [if_neg (by decide), List.append_nil]; exact O9⟩
      · rintro H6 ⟨ws, O9⟩
        rw [hms, List.take_length] at O9
        clear O8
        top_raise0
        refine ⟨hm.1, ?_⟩
        top_raise0
        refine ⟨⟨_, SqL.of (hat O9.f3).1⟩, ?_⟩
        regstrif_fact
        rename_i D2 hD2 H7 O10
        clear O9
        have hol := List.length_filter_le (fun m : Mk => decide (m.1 ≤ f)) ms
        generalize hold : (ms.filter fun m => decide (m.1 ≤ f)) = old at *
        refine lcL (xs := vs) (fun j H8 => ∃ us, Own H8 (tupsC mkE D2 us ((ms.take j).filter fun m => decide (f < m.1)) :: tupsC mkE D ws old :: [.m A2.d (.dK (plE A2 pl2))] :: [.m A2.h (.lst (pl2.holds.map V.int))] :: rowC mkRow A2.m A2.ds A2.ls :: tupsC rowE A2.r A2.rv pl2.rows :: houseC K B s :: R)) ⟨[], tups_nil O10⟩ (fun j H6 hj ⟨us, O9⟩ => SqL.of (hat O9.f4).1) ?_ ?_
        · rintro j x H8 hx3 ⟨us, O9⟩
          have h4 := (hat O9.f4).2
          obtain ⟨m, hm9, p9, rfl, hp9⟩ := areT_getV h4 hx3
          rw [mem_filter_app hm9]
          have hwl := areT_len (tups_is O9)
          have hfl := List.length_filter_le (fun m : Mk => decide (f < m.1)) (ms.take j)
          rw [List.length_take] at hfl
          top_raise0
          rw [hfl2]
          top_raise0
          by_cases hc : f < m.1
          · rw [decide_eq_true hc, if_pos rfl]
            top_raise0
            refine ⟨small_size (by omega), _, tups_push O9 ⟨p9, rfl, hp9⟩ rfl⟩
          · rw [decide_eq_false hc]
            exact ⟨us, by rw [if_neg (by decide), List.append_nil]; exact O9⟩
        · rintro H8 ⟨us, O9⟩
          rw [hms, List.take_length] at O9
          clear O10
          have hll := List.length_filter_le (fun m : Mk => decide (f < m.1)) ms
          generalize hlate : (ms.filter fun m => decide (f < m.1)) = late at *
          have hwl := areT_len (tups_is O9.f1)
          have hul := areT_len (tups_is O9)
          top_raise0
          rename_i p4 hp4 H9 O11
          rw [show cutV ws (some (-1)) none = ws.drop (ws.length - 1) from cut_last ws] at O11
          have O12 := tups_new O11 (areT_drop (tups_is O11.f2) (ws.length - 1))
          rw [hwl] at O12
          clear O9 O11
          have htl := tail_len old
          have hsl := List.length_filter_le (fun m : Mk => m.2.isSome) (old.drop (old.length - 1))
          have hneed := need_stay ms f
          have hparts := parts_len ms f
          rw [hold, hlate] at hneed hparts
          generalize old.drop (old.length - 1) = tl at *
          generalize hws4 : ws.drop (old.length - 1) = ws4 at *
          have hw4 := areT_len (tups_is O12)
          refine ⟨⟨_, SqL.of (O12.at 0 0 rfl)⟩, ?_⟩
          regstrif_fact
          rename_i D3 hD3 H10 O13
          refine lcL (xs := ws4) (fun j H8 => ∃ zs, Own H8 (tupsC mkE D3 zs ((tl.take j).filter fun m => m.2.isSome) :: tupsC mkE p4 ws4 tl :: tupsC mkE D2 us late :: tupsC mkE D ws old :: [.m A2.d (.dK (plE A2 pl2))] :: [.m A2.h (.lst (pl2.holds.map V.int))] :: rowC mkRow A2.m A2.ds A2.ls :: tupsC rowE A2.r A2.rv pl2.rows :: houseC K B s :: R)) ⟨[], tups_nil O13⟩ (fun j H6 hj ⟨zs, O9⟩ => SqL.of (O9.at 1 0 rfl)) ?_ ?_
          · rintro j x H8 hx3 ⟨zs, O9⟩
            have h4 := tups_is O9.f1
            obtain ⟨m, hm9, p9, rfl, hp9⟩ := areT_getV h4 hx3
            rw [mem_filter_app hm9]
            have hzl := areT_len (tups_is O9)
            have hfl := List.length_filter_le (fun m : Mk => m.2.isSome) (tl.take j)
            rw [List.length_take] at hfl
            obtain ⟨t9, o9⟩ := m
            cases o9 with
            | none =>
              have e1 : oV ((t9, (none : Option Int)) : Mk).2 = V.non := rfl
              top_raise0
              rw [show (if ((t9, (none : Option Int)) : Mk).2.isSome = true then [((t9, none) : Mk)] else []) = [] from rfl, List.append_nil]
              exact O9
            | some v9 =>
              have e1 : ¬ oV ((t9, some v9) : Mk).2 = V.non := fun e => by cases e
              top_raise0
              refine ⟨small_size (by omega), _, tups_push O9 ⟨p9, rfl, hp9⟩ rfl⟩
          · rintro H8 ⟨zs, O9⟩
            rw [show ws4.length = tl.length from hw4, List.take_length] at O9
            have hzl := areT_len (tups_is O9)
            clear O12 O13
            top_raise0
            generalize hstay : (tl.filter fun m => m.2.isSome) = stay at *
            refine ⟨Nat.le_of_lt (small_size (by omega)), ?_⟩
            regstrif_fact
            rename_i p6 hp6 H11 O14
            have O15 := tups_new O14 (areT_app (tups_is O14.f1) (tups_is O14.f3))
            rw [hneed] at O15
            clear O9 O14
            have O16 := O15.f1.drop.f1.drop.f1.drop.f1.drop
            clear O15
            have hdl := row_lenV O16.f3
            have hls3 : A2.ls.length = pl2.makes.length := by rw [← hls2, List.length_map]
            top_raise0
            refine ⟨ixN_nat (by omega), ?_⟩
            generalize hh : upd H11 _ _ = H12
            have O17 := row_set (f := mkRow) (l := (zs ++ us, needF ms f)) O16.f3.f1 (by omega) hh
            have e3 : pl3 = { pl2 with makes := pl3.makes } := by rw [hrest pl3.makes]
            have O18 : Own H12 (plainC ⟨A2.d, A2.h, A2.m, A2.r, A2.ds.set i p6, A2.ls.set i (zs ++ us, needF ms f), A2.rv⟩ { pl2 with makes := pl3.makes } :: houseC K B s :: R) :=
              plain_join (A := ⟨A2.d, A2.h, A2.m, A2.r, A2.ds.set i p6, A2.ls.set i (zs ++ us, needF ms f), A2.rv⟩) (pl := { pl2 with makes := pl3.makes }) O17.f2.f2 (by rw [List.map_set, hls2]; exact hset)
            rw [← e3] at O18
            have hlen : (needF ms f).length = stay.length + late.length := by rw [← hneed, List.length_append]
            refine ⟨some (.int i), a1, some (.ref D), some (.ref D2), some (.ref D3), ⟨A2.d, A2.h, A2.m, A2.r, A2.ds.set i p6, A2.ls.set i (zs ++ us, needF ms f), A2.rv⟩, rfl, ?_, O18⟩
            show [_, _, some (V.int _), _, _, _, _, _] = [_, _, some (V.int _), _, _, _, _, _]
            have e4 : many + (ws.length : Int) - zs.length = many + lessF f ms := by
              unfold lessF
              omega
            rw [e4]
    · rintro σ H4 ⟨a0, a1, a2, a3, a4, A2, e2, rfl, O6⟩
      have hl8 := tw.len
      rw [sw_end tw.len] at O6
      rw [show pl.makes.take 8 = pl.makes from List.take_of_length_le (by rw [tw.len]; exact Nat.le_refl _), ← two_gone tw f, ← e2]
      have hok := tw.ok
      top_raise0
      intro H5 B2 eB O7
      clear O6
      top_raise0
      rw [show s.sweep.floor = f from hfl.symm, decide_eq_true rfl]
      exact q H5 A2 B2 (pl.swept f) s.sweep e2 eB (two_sweep tw hfl) O7.f1
end
end SW
namespace SW
open PySem PySem.Spec PyProof.Rows L2
/-! ### rows, and lists of two, told apart by == -/
theorem tg_ok (t : Tg) : PyData.strOk t.s = true := by cases t <;> kernel_rfl
theorem tg_inj {a b : Tg} (h : a.s = b.s) : a = b := by
  have k : (Tg.put.s = Tg.drop.s → False) ∧ (Tg.put.s = Tg.mark.s → False) ∧ (Tg.drop.s = Tg.mark.s → False) := by
    refine ⟨?_, ?_, ?_⟩ <;> decide
  cases a <;> cases b <;> first | rfl | exact (k.1 h).elim | exact (k.2.1 h).elim | exact (k.2.2 h).elim | exact (k.1 h.symm).elim | exact (k.2.1 h.symm).elim | exact (k.2.2 h.symm).elim
instance : Da Row where
  toD r := .tuple (.str r.tag.s :: r.args.map .int)
  lay r := by
    simp only [PyData.canLay0, PyData.canLayAll0, tg_ok, Bool.true_and]
    exact layAll_map r.args
  eqv a b := by
    simp only [PyData.eqv, PyData.eqvAll]
    have h : PyData.eqvAll (a.args.map PyData.int) (b.args.map PyData.int) = decide (a.args = b.args) := eqAll_map a.args b.args
    rw [h, beq_dec, ← Bool.decide_and]
    refine decide_eq_decide.mpr ⟨fun e => ?_, fun e => by rw [e]; exact ⟨rfl, rfl⟩⟩
    cases a
    cases b
    obtain ⟨e1, e2⟩ := e
    have e1 := tg_inj e1
    subst e1 e2
    rfl
  dep := 1
  dep_le r := by
    have h := depAll_map r.args
    simp only [PyData.depth, PyData.depthAll]
    have h2 : PyData.depthAll (r.args.map PyData.int) ≤ 0 := h
    omega
theorem row_dv {K : PySem.W.Frag} (H : Hp) (p : Addr) (r : Row) (e : H p = some (.tup (rowE r))) : DV K H (.ref p) r :=
  Dp.tup (SqT.of e) (.cons (Dp.str r.tag.s) (DA.ints r.args))
structure Duo (α β : Type) where
  a : α
  b : β
  deriving DecidableEq
instance {α β : Type} [DecidableEq α] [Da α] [DecidableEq β] [Da β] : Da (Duo α β) where
  toD p := .list [Da.toD p.a, Da.toD p.b]
  lay p := by simp only [PyData.canLay0, PyData.canLayAll0, Da.lay, Bool.and_self]
  eqv p q := by
    simp only [PyData.eqv, PyData.eqvAll]
    rw [Da.eqv, Da.eqv, Bool.and_true, ← Bool.decide_and]
    refine decide_eq_decide.mpr ⟨fun e => ?_, fun e => by rw [e]; exact ⟨rfl, rfl⟩⟩
    cases p
    cases q
    obtain ⟨e1, e2⟩ := e
    subst e1 e2
    rfl
  dep := max (Da.dep α) (Da.dep β) + 1
  dep_le p := by
    simp only [PyData.depth, PyData.depthAll]
    have h1 := Da.dep_le p.a
    have h2 := Da.dep_le p.b
    omega
theorem DV.duo {α β : Type} [DecidableEq α] [Da α] [DecidableEq β] [Da β] {K : PySem.W.Frag} {H : Hp} {p : Addr} {x y : V} {a : α} {b : β} (h : DV K H x a) (h' : DV K H y b) (e : H p = some (.lst [x, y])) : DV K H (.ref p) (Duo.mk a b) := Dp.lst (SqL.of e) (.cons h (.cons h' .nil))
def th (pl : Pl) (i : Nat) : List Int := ((List.range i).filter fun k => (lastF (pl.makes.getD k [])).isSome).map fun (k : Nat) => (k : Int)
section
variable {pl : Pl} {s : Ho} {n i : Nat}
theorem th_len (pl : Pl) (i : Nat) : (th pl i).length ≤ i := by
  unfold th
  rw [List.length_map]
  exact Nat.le_trans (List.length_filter_le _ _) (by rw [List.length_range]; exact Nat.le_refl _)
theorem th_none (h : lastF (pl.makes.getD i []) = none) : th pl (i + 1) = th pl i := by
  unfold th
  rw [List.range_succ, List.filter_append, List.filter_cons, h]
  simp
theorem th_some {v : Int} (h : lastF (pl.makes.getD i []) = some v) : th pl (i + 1) = th pl i ++ [(i : Int)] := by
  unfold th
  rw [List.range_succ, List.filter_append, List.filter_cons, h]
  simp
theorem th_mem {k : Nat} (h : k < 8) : (k : Int) ∈ th pl 8 ↔ (lastF (pl.makes.getD k [])).isSome = true := by
  unfold th
  rw [List.mem_map]
  constructor
  · rintro ⟨j, hj, e⟩
    have : j = k := by omega
    subst this
    exact (List.mem_filter.mp hj).2
  · intro e
    exact ⟨k, List.mem_filter.mpr ⟨List.mem_range.mpr h, e⟩, rfl⟩
theorem two_there (h : Two pl s n) : s.sl.number = (th pl 8).length := by
  rw [h.num]
  have e0 : s.sl.look 0 = lastF (pl.makes.getD 0 []) := h.look 0 (by omega)
  have e1 : s.sl.look 1 = lastF (pl.makes.getD 1 []) := h.look 1 (by omega)
  have e2 : s.sl.look 2 = lastF (pl.makes.getD 2 []) := h.look 2 (by omega)
  have e3 : s.sl.look 3 = lastF (pl.makes.getD 3 []) := h.look 3 (by omega)
  have e4 : s.sl.look 4 = lastF (pl.makes.getD 4 []) := h.look 4 (by omega)
  have e5 : s.sl.look 5 = lastF (pl.makes.getD 5 []) := h.look 5 (by omega)
  have e6 : s.sl.look 6 = lastF (pl.makes.getD 6 []) := h.look 6 (by omega)
  have e7 : s.sl.look 7 = lastF (pl.makes.getD 7 []) := h.look 7 (by omega)
  unfold cnt th oneIf
  rw [e0, e1, e2, e3, e4, e5, e6, e7, List.length_map, ← List.countP_eq_length_filter, show List.range 8 = [0, 1, 2, 3, 4, 5, 6, 7] from rfl]
  simp only [List.countP_cons, List.countP_nil]
  omega
end
section
variable {P : Program} {w : World} {K : PySem.W.Frag} {mg : Str → Option Value} {base : Heap}
def sp_law_right (K : PySem.W.Frag) : Sp := fun vs H Q _ => ∃ (A : PlA) (B : HoA) (pl : Pl) (s : Ho) (R : List (List Ce)) (n : Nat), vs = [.ref A.d, .ref B.p] ∧ Own H (plainC A pl :: houseC K B s :: R) ∧ Two pl s n ∧ n < 60 ∧
  ∀ H', Own H' (plainC A pl :: houseC K B s :: R) → Q (.bl true) H'
theorem sc__law_right : FnScope ["plain", "house", "key", "there", "again", "told", "makes"] ["plain", "house"] (defScope s__law_right) := ⟨rfl, rfl, rfl, by decide +kernel, rfl, by decide +kernel, by decide +kernel⟩
theorem ok_law_right (T : Txt K mg) : OkD P w K mg base 8 ("_law_right", none) ["plain", "house"] [] (sp_law_right K) := by
  refine ok_of T.f__law_right sc__law_right (fun vs H Q E h => ?_) (fun dV kV doc pm an cdv ct us hl => match us, hl with | [_, _], _ => rfl) (fun cdv A outer s H vs Q E hr h => ?_)
  · obtain ⟨A, B, pl, s, R, n, rfl, _⟩ := h
    rfl
  · obtain ⟨A, B, pl, s, R, n, rfl, O, tw, hn, q⟩ := h
    have hl8 := tw.len
    refine ⟨_, (pss_cons (ps_setLc (i := 3) (own := [("key", 2)]) rfl sc__law_right.nd rfl rfl (sw_true rfl rfl rfl (by decide +kernel)) (pi_range1 (by rfl) T.free_range (pa_cons pe_int pa_nil)) (blkOk_by (own := [("key", 2)]) (N := ["plain", "house", "key", "there", "again", "told", "makes"]) (sc := defScope s__law_right) (by decide +kernel)) (fun _ _ _ _ _ => (pg_name (i := 2) sc__law_right.nd rfl (Or.inl rfl))) (fun _ _ _ _ _ => (pts_one (pt_cmpR op_notN (pe_D (ok_law_last (K := K) T) T.glo__law_last hr (pa_cons (pv 0) (pa_cons (pv 2) pa_nil))) pe_non (nomark _)))) (fun _ _ _ _ _ => (pv 2)))
      (pss_cons (ps_if (pt_cmpR (op_neD hr.units) (pe_lst (pa_cons (pe_House_now T (pv 1)) (pa_cons (pe_House_floor T (pv 1)) (pa_cons (pe_GM0 (ok_House_many (K := K) T) (pv 1) T.cls_House T.me_House_many gMHouse_many hr passL) pa_nil)))) (pe_lst (pa_cons (pe_dget (hu_of hr) (pv 0) pe_str (fun _ _ => rfl)) (pa_cons (pe_dget (hu_of hr) (pv 0) pe_str (fun _ _ => rfl)) (pa_cons (pe_callB call_len_seq (by rfl) T.free_len (by decide +kernel) (pa_cons (pv 3) pa_nil)) pa_nil)))) (nomark _))
      (pss_one (ps_ret pe_bl))
      pss_nil)
      (pss_cons (ps_for (passes_of rfl) rfl (pi_range1 (by rfl) T.free_range (pa_cons pe_int pa_nil)) (pg_name (i := 4) sc__law_right.nd rfl (Or.inl rfl))
      (pss_cons (ps_set (i := 5) sc__law_right.nd rfl (Or.inl rfl) (pe_lst (pa_cons (pe_GM0 (ok_House_held (K := K) T) (pv 1) T.cls_House T.me_House_held gMHouse_held hr passL) (pa_cons (pe_GM0 (ok_House_diary_d0 (K := K) T) (pv 1) T.cls_House T.me_House_diary gMHouse_diary hr passL) pa_nil))))
      (pss_cons (ps_if (pt_cmpR (op_neD hr.units) (pv 5) (pe_lst (pa_cons (pe_callB (cr_sortedSet rfl) (by rfl) T.free_sorted (by decide +kernel) (pa_cons (pe_callTy (cr_setL rfl) (by rfl) T.free_set (by decide +kernel) (pa_cons (pe_dget (hu_of hr) (pv 0) pe_str (fun _ _ => rfl)) pa_nil)) pa_nil)) (pa_cons (pe_dget (hu_of hr) (pv 0) pe_str (fun _ _ => rfl)) pa_nil))) (nomark _))
      (pss_one (ps_ret pe_bl))
      pss_nil)
      (pss_cons (ps_expr (pe_bm PySem.F.plainAttrs_list PySem.F.slot_list_append PySem.F.type_list_append mt_append (pe_ix (ix_listK (K := K) rfl) (pv 5) pe_int (fun _ _ => rfl)) (pa_cons pe_int pa_nil)))
      (pss_one (ps_expr (pe_bm PySem.F.plainAttrs_list PySem.F.slot_list_append PySem.F.type_list_append mt_append (pe_ix (ix_listK (K := K) rfl) (pv 5) pe_int (fun _ _ => rfl)) (pa_cons (pe_tup (pa_cons pe_str (pa_cons pe_int pa_nil))) pa_nil))))))))
      (pss_cons (ps_for (passes_of rfl) rfl (pi_range1 (by rfl) T.free_range (pa_cons pe_int pa_nil)) (pg_name (i := 2) sc__law_right.nd rfl (Or.inl rfl))
      (pss_cons (ps_set (i := 6) sc__law_right.nd rfl (Or.inl rfl) (pe_GM (ok_House_makes (K := K) T) (pv 1) T.cls_House T.me_House_makes gMHouse_makes hr passL (pa_cons (pv 2) pa_nil)))
      (pss_cons (ps_if (PW.pt (pw_or (pt_cmpR (op_neD hr.units) (pv 6) (pe_ix (ix_listK (K := K) rfl) (pe_dget (hu_of hr) (pv 0) pe_str (fun _ _ => rfl)) (pv 2) (fun _ _ => rfl)) (nomark _)) (pw_or1 (pt_cmpR op_ne (pe_GM (ok_House_has (K := K) T) (pv 1) T.cls_House T.me_House_has gMHouse_has hr passL (pa_cons (pv 2) pa_nil)) (pe_cmpR op_in_seq (pv 2) (pv 3) (by rfl)) (nomark _)))))
      (pss_one (ps_ret pe_bl))
      pss_nil)
      (pss_cons (ps_expr (pe_bm PySem.F.plainAttrs_list PySem.F.slot_list_append PySem.F.type_list_append mt_append (pv 6) (pa_cons (pe_tup (pa_cons pe_int (pa_cons pe_int pa_nil))) pa_nil)))
      (pss_one (ps_if (PW.pt (pw_and (pt_cmpR op_in_seq (pv 2) (pv 3) (by rfl)) (pw_and1 (pt_cmpR op_ne (pe_GM (ok_House_get (K := K) T) (pv 1) T.cls_House T.me_House_get gMHouse_get hr passL (pa_cons (pv 2) pa_nil)) (pe_D (ok_law_last (K := K) T) T.glo__law_last hr (pa_cons (pv 0) (pa_cons (pv 2) pa_nil))) (nomark _)))))
      (pss_one (ps_ret pe_bl))
      pss_nil))))))
      (pss_one (ps_ret pe_bl)))))), ?_⟩
    try dsimp only [L2.cxOf]
    top_raise0
    rename_i D hD H1 O1
    refine lcR (fun i H2 => Own H2 ([.m D (.lst ((th pl i).map V.int))] :: plainC A pl :: houseC K B s :: R)) O1 ?_ ?_
    · rintro i H2 hi O2
      rw [Int.zero_add]
      have hi8 : i < 8 := hi
      have hik : i < pl.makes.length := by omega
      have hil := th_len pl i
      clear O O1
      top_raise0
      intro H3 O3
      clear O2
      cases hla : lastF (pl.makes.getD i []) with
      | none =>
        rw [th_none hla]
        have e1 : oV none = V.non := rfl
        top_raise0
        exact O3.f1
      | some v =>
        rw [th_some hla, List.map_append]
        have e1 : ¬ oV (some v) = V.non := fun e => by cases e
        top_raise0
        refine ⟨small_size (by rw [List.length_map]; omega), ?_⟩
        generalize hh : upd H3 _ _ = H4
        exact O3.f1.genS hh
    · rintro H2 O2
      have O3 : Own H2 ([.m D (.lst ((th pl 8).map V.int))] :: plainC A pl :: houseC K B s :: R) := O2
      clear O O1 O2
      top_raise0
      rename_i p1 hp1 H3 O4 p2 hp2 H4 O5
      refine neD_of (a := [s.now, s.floor, (s.sl.number : Int)]) (b := [pl.now, pl.floor, ((th pl 8).length : Int)]) ((DA.ints _).list (O5.at 1 0 rfl)) (by
        have hx := (DA.ints (K := K) (H := H4) [pl.now, pl.floor, ((th pl 8).length : Int)]).list (p := p2) (O5.at 0 0 (by rw [List.length_map]; rfl))
        exact hx) (by decide) ?_
      have O6 := O5.drop.drop
      clear O3 O4 O5
      rw [tw.now, tw.floor, two_there tw, decide_eq_true rfl]
      top_raise0
      have n6 := tw.ok.n6
      have hhz : pl.holds.length < 1000 := by have := tw.hz; omega
      have hhl := tw.ok.hl
      have hmk := tw.ok.mks
      have hslo := tw.ok.sl
      refine forR (lo := 0) (n := 2) (fun i σ H => Stp (∃ a0 a1 a2 a3, σ = [some (V.ref A.d), some (V.ref B.p), a0, some (V.ref D), a1, a2, a3] ∧ Own H ([.m D (.lst ((th pl 8).map V.int))] :: plainC A pl :: houseC K B s :: R)))
        ⟨_, _, _, _, rfl, O6⟩ ?_ ?_
      · rintro i σ H7 hi ⟨a0, a1, a2, a3, rfl, O7⟩
        clear O6
        top_raise0
        intro H8 ph O8
        clear O7
        top_raise0
        intro H9 pd ys O9
        clear O8
        have O10 := O9.f4
        clear O9
        top_raise0
        intro p3 c hp3 hc
        generalize hh : upd _ p3 _ = H11
        rename_i p2 hp2 H10 O11
        have O12 : Own H11 ([.m p2 (.lst [.ref ph, .ref pd])] :: plainC A pl :: tupsC rowE pd ys s.rows :: houseC K B s :: [.m ph (.lst ((heldF s.hl).map V.int))] :: [.m D (.lst ((th pl 8).map V.int))] :: R) := hh ▸ O11.same hp3
        have hset : H11 p3 = some (SetO w p3 (fun k => decide (k ∈ pl.holds)) c) := by rw [← hh]; exact upd_same
        have hc64 : c < 64 := by have := tw.hz; omega
        clear O10 O11 hh hp2 hp3
        top_raise0
        intro ns p4 hsrt hmem hnl hp4
        generalize hh : upd _ p4 _ = H12
        have O13 := O12.gen hp4 hh
        have hheld : heldF s.hl = ns := two_held tw hsrt fun k => by rw [hmem]; simp
        rw [hheld] at O13
        have hnz : ns.length ≤ n := by rw [← hheld, held_len]; exact n6
        have hrz := tw.ok.n5
        clear O12 hset hh hmem hp4
        top_raise0
        rename_i p5 hp5 H13 O14
        have hys := areT_len (tups_is O14.f4)
        have hR := (plain_split O14.f3).f3
        refine neD_of (a := Duo.mk ns s.rows) (b := Duo.mk ns pl.rows) (DV.duo ((DA.ints ns).list (O14.at 6 0 rfl)) ((areT_da row_dv (tups_is O14.f4)).list (O14.at 4 0 rfl)) (O14.at 2 0 rfl)) (DV.duo ((DA.ints ns).list (O14.at 1 0 rfl)) ((areT_da row_dv (tups_is hR)).list (hR.at 0 0 rfl)) (O14.at 0 0 rfl)) (by decide) ?_
        rw [tw.rows, decide_eq_true rfl]
        have O16 := O14.drop.drop
        clear O13 O14 hR hp5
        top_raise0
        refine ⟨small_size (by rw [List.length_map]; omega), ?_⟩
        generalize hh : upd _ ph _ = H14
        have O17 := (O16.f4.genS hh).drop
        clear O16 hh
        top_raise0
        rename_i p6 hp6 H15 O18
        refine ⟨small_size (by omega), ?_⟩
        generalize hh : upd _ pd _ = H16
        have O19 := (O18.f3.genS hh).drop.drop.drop
        clear O17 O18 hh
        exact ⟨_, _, _, _, rfl, O19.f2⟩
      · rintro σ H7 ⟨a0, a1, a2, a3, rfl, O7⟩
        clear O6
        top_raise0
        refine forR (lo := 0) (n := 8) (fun i σ H => Stp (∃ a0 a1 a2 a3, σ = [some (V.ref A.d), some (V.ref B.p), a0, some (V.ref D), a1, a2, a3] ∧ Own H ([.m D (.lst ((th pl 8).map V.int))] :: plainC A pl :: houseC K B s :: R)))
          ⟨_, _, _, _, rfl, O7⟩ ?_ ?_
        · rintro i σ H8 hi ⟨a0, a1, a2, a3, rfl, O8⟩
          rw [Int.zero_add]
          have hi8 : i < 8 := hi
          clear O7
          top_raise0
          intro H9 pm ms O9
          clear O8
          have hik : i < pl.makes.length := by omega
          have hls := plain_is O9.f3
          have hps := (plain_split O9.f3).f2
          have hm := mk_at (pl := pl) hps hls hik
          have hmn := two_mlen tw hi8
          have hml := areT_len (tups_is O9)
          have hps0 := hps.at 0 0 rfl
          clear hps
          top_raise0
          refine ⟨hm.1, ?_⟩
          refine neD_of (a := (aget s.mks i).getD []) (b := pl.makes.getD i []) ((areT_da mk_da (tups_is O9)).list (O9.at 0 0 rfl)) ((areT_da mk_da hm.2.2).list hm.2.1) (by decide) ?_
          rw [tw.mks i hi8] at hml ⊢
          rw [decide_eq_true rfl]
          have hlk := tw.look i hi8
          have hin : inV (V.int (i : Int)) ((th pl 8).map V.int) = (lastF (pl.makes.getD i [])).isSome := by
            rw [ints_in, Bool.eq_iff_iff, decide_eq_true_eq]
            exact th_mem hi8
          top_raise0
          refine ⟨ints_all _, ?_⟩
          top_raise0
          cases hla : lastF (pl.makes.getD i []) with
          | none =>
            rw [hla] at hlk hin
            rw [hlk]
            simp only [hin]
            top_raise0
            rename_i p7 hp7 H10 O10
            refine ⟨small_size (by omega), ?_⟩
            generalize hh : upd _ pm _ = H11
            have O11 := (O10.f1.genS hh).drop.drop
            clear O9 O10 hh hps0 hm
            top_raise0
            refine ⟨ints_all _, ?_⟩
            simp only [hin]
            top_raise0
            exact ⟨_, _, _, _, rfl, O11.f2.f2⟩
          | some v =>
            rw [hla] at hlk hin
            rw [hlk]
            simp only [hin]
            top_raise0
            rename_i p7 hp7 H10 O10
            refine ⟨small_size (by omega), ?_⟩
            generalize hh : upd _ pm _ = H11
            have O11 := (O10.f1.genS hh).drop.drop
            clear O9 O10 hh hps0 hm
            top_raise0
            refine ⟨ints_all _, ?_⟩
            simp only [hin]
            top_raise0
            intro H12 O12
            clear O11
            rw [hla]
            top_raise0
            rw [show decide (V.int v = oV (some v)) = true from decide_eq_true rfl]
            top_raise0
            exact ⟨_, _, _, _, rfl, O12.f2⟩
        · rintro σ H8 ⟨a0, a1, a2, a3, rfl, O8⟩
          clear O7
          top_raise0
          exact q _ O8.drop
end
end SW
namespace SW
open PySem PySem.Spec PyProof.Rows L2
section
variable {P : Program} {w : World} {K : PySem.W.Frag} {mg : Str → Option Value} {base : Heap}
def sp_law_deed (K : PySem.W.Frag) : Sp := fun vs H Q _ => ∃ (d : Addr) (ns : List Int) (A : PlA) (B : HoA) (pl : Pl) (s : Ho) (R : List (List Ce)) (n : Nat), vs = [.ref d, .ref A.d, .ref B.p] ∧ Own H ([.m d (.lst (ns.map V.int))] :: plainC A pl :: houseC K B s :: R) ∧ (ns.length = 1 ∨ ns.length = 3) ∧ Two pl s n ∧ n < 45 ∧
  ∀ H' A' B' pl' s', A'.d = A.d → B'.p = B.p → Two pl' s' (n + 1) → Own H' (plainC A' pl' :: houseC K B' s' :: R) → Q (.bl true) H'
theorem sc__law_deed : FnScope ["state", "plain", "house", "way", "key", "value"] ["state", "plain", "house"] (defScope s__law_deed) := ⟨rfl, rfl, rfl, by decide +kernel, rfl, by decide +kernel, by decide +kernel⟩
theorem ok_law_deed (T : Txt K mg) : OkD P w K mg base 9 ("_law_deed", none) ["state", "plain", "house"] [] (sp_law_deed K) := by
  refine ok_of T.f__law_deed sc__law_deed (fun vs H Q E h => ?_) (fun dV kV doc pm an cdv ct us hl => match us, hl with | [_, _, _], _ => rfl) (fun cdv A outer s H vs Q E hr h => ?_)
  · obtain ⟨d, ns, A, B, pl, s, R, n, rfl, _⟩ := h
    rfl
  · obtain ⟨d, ns, A, B, pl, s, R, n, rfl, O, hl, tw, hn, q⟩ := h
    have c9 : CDivW 0 9 := ⟨by decide, by decide⟩
    have c8 : CDivW 0 8 := ⟨by decide, by decide⟩
    have c2 : CDivW 0 2 := ⟨by decide, by decide⟩
    have c39 : CDivW 0 (10 ^ Int.toNat 39) := ⟨by decide, by decide⟩
    have cp : CPow 10 39 := ⟨by decide, by decide, by decide⟩
    refine ⟨_, (pss_cons (ps_set (i := 3) sc__law_deed.nd rfl (Or.inl rfl) (pe_D (ok_law_digit (K := K) T) T.glo__law_digit hr (pa_cons (pv 0) (pa_cons pe_int pa_nil))))
      (pss_cons (ps_set (i := 4) sc__law_deed.nd rfl (Or.inl rfl) (pe_D (ok_law_digit (K := K) T) T.glo__law_digit hr (pa_cons (pv 0) (pa_cons pe_int pa_nil))))
      (pss_cons (ps_set (i := 5) sc__law_deed.nd rfl (Or.inl rfl) (pe_op op_mul (pe_D (ok_law_digit (K := K) T) T.glo__law_digit hr (pa_cons (pv 0) (pa_cons (pe_op op_pow pe_int pe_int) pa_nil))) (pe_ix (ix_listK (K := K) rfl) (pe_lst (pa_cons pe_int (pa_cons (pe_un un_neg pe_int) pa_nil))) (pe_D (ok_law_digit (K := K) T) T.glo__law_digit hr (pa_cons (pv 0) (pa_cons pe_int pa_nil))) (fun _ _ => rfl))))
      (pss_cons (ps_if (pt_cmpR op_lt (pv 3) pe_int (nomark _))
      (pss_one (ps_ret (pe_D (ok_law_changed (K := K) T) T.glo__law_changed hr (pa_cons (pv 1) (pa_cons (pv 2) (pa_cons (pv 4) (pa_cons (pv 5) pa_nil)))))))
      pss_nil)
      (pss_cons (ps_if (PW.pt (pw_and (pt_cmpR op_eq (pv 3) pe_int (nomark _)) (pw_and1 (pt_cmpR op_notN (pe_D (ok_law_last (K := K) T) T.glo__law_last hr (pa_cons (pv 1) (pa_cons (pv 4) pa_nil))) pe_non (nomark _)))))
      (pss_one (ps_ret (pe_D (ok_law_changed (K := K) T) T.glo__law_changed hr (pa_cons (pv 1) (pa_cons (pv 2) (pa_cons (pv 4) (pa_cons pe_non pa_nil)))))))
      pss_nil)
      (pss_cons (ps_if (pt_cmpR op_eq (pv 3) pe_int (nomark _))
      (pss_cons (ps_expr (pe_bm PySem.F.plainAttrs_list PySem.F.slot_list_append PySem.F.type_list_append mt_append (pe_dget (hu_of hr) (pv 1) pe_str (fun _ _ => rfl)) (pa_cons (pe_dget (hu_of hr) (pv 1) pe_str (fun _ _ => rfl)) pa_nil)))
      (pss_one (ps_ret (pe_cmpR op_eq (pe_GM0 (ok_House_hold (K := K) T) (pv 2) T.cls_House T.me_House_hold gMHouse_hold hr passL) (pe_dget (hu_of hr) (pv 1) pe_str (fun _ _ => rfl)) (nomark _)))))
      pss_nil)
      (pss_cons (ps_if (PW.pt (pw_and (pt_cmpR op_eq (pv 3) pe_int (nomark _)) (pw_and1 (pt_cmpR (op_neD hr.units) (pe_dget (hu_of hr) (pv 1) pe_str (fun _ _ => rfl)) (pe_lst pa_nil) (nomark _)))))
      (pss_one (ps_ret (pe_cmpR op_isN (pe_GM (ok_House_let_go (K := K) T) (pv 2) T.cls_House T.me_House_let_go gMHouse_let_go hr passL (pa_cons (pe_bm PySem.F.plainAttrs_list PySem.F.slot_list_pop PySem.F.type_list_pop mt_popAt (pe_dget (hu_of hr) (pv 1) pe_str (fun _ _ => rfl)) (pa_cons (pe_D (ok_law_digit (K := K) T) T.glo__law_digit hr (pa_cons (pv 0) (pa_cons (pe_callB call_len_seq (by rfl) T.free_len (by decide +kernel) (pa_cons (pe_dget (hu_of hr) (pv 1) pe_str (fun _ _ => rfl)) pa_nil)) pa_nil))) pa_nil)) pa_nil)) pe_non (nomark _))))
      pss_nil)
      (pss_cons (ps_if (pt_cmpR op_eq (pv 3) pe_int (nomark _))
      (pss_one (ps_ret (pe_D (ok_law_swept (K := K) T) T.glo__law_swept hr (pa_cons (pv 1) (pa_cons (pv 2) pa_nil)))))
      pss_nil)
      (pss_cons (ps_dput (hu_of hr) (pv 1) pe_str (pe_op op_add (pe_dget (hu_of hr) (pv 1) pe_str (fun _ _ => rfl)) pe_int) rfl)
      (pss_cons (ps_expr (pe_bm PySem.F.plainAttrs_list PySem.F.slot_list_append PySem.F.type_list_append mt_append (pe_dget (hu_of hr) (pv 1) pe_str (fun _ _ => rfl)) (pa_cons (pe_tup (pa_cons pe_str (pa_cons (pe_dget (hu_of hr) (pv 1) pe_str (fun _ _ => rfl)) pa_nil))) pa_nil)))
      (pss_one (ps_ret (pe_cmpR op_eq (pe_GM0 (ok_House_lay_mark (K := K) T) (pv 2) T.cls_House T.me_House_lay_mark gMHouse_lay_mark hr passL) (pe_dget (hu_of hr) (pv 1) pe_str (fun _ _ => rfl)) (nomark _)))))))))))))), ?_⟩
    try dsimp only [L2.cxOf]
    top_raise0
    intro H1 m1 way h1 w0 w9 O1
    clear O
    top_raise0
    intro H2 m2 key h2 k0 k8 O2
    clear O1
    top_raise0
    intro H3 m3 v0 h3 v1 v2 O3
    clear O2
    top_raise0
    rename_i p4 hp4 H4a O4a
    intro H4 m4 sg h4 s0 s2 O4
    clear O3 O4a hp4
    obtain ⟨e, hat, he⟩ : ∃ e : Int, atI [V.int 1, V.int (-1)] sg = some (.int e) ∧ (e = 1 ∨ e = -1) := by
      rcases (by omega : sg = 0 ∨ sg = 1) with h | h
      · subst h
        exact ⟨1, rfl, .inl rfl⟩
      · subst h
        exact ⟨-1, rfl, .inr rfl⟩
    have hcm : CMul v0 e := .inr ⟨by omega, by omega⟩
    have hp4 : SqL K H4 p4 [V.int 1, V.int (-1)] := .of (O4.at 1 0 rfl)
    top_raise0
    have O5 := O4.f1.drop
    clear O4 hp4 hcm hat
    obtain ⟨k, rfl⟩ : ∃ k : Nat, key = (k : Int) := ⟨key.toNat, by omega⟩
    have hk8 : k < 8 := by omega
    have hik : k < pl.makes.length := by rw [tw.len]; exact hk8
    have hl8 := tw.len
    clear k0 k8 he s0 s2 v1 v2 h1 h2 h3
    by_cases way4 : way < 4
    · top_raise0
      refine ⟨(show _ = [V.ref A.d, V.ref B.p, V.int (k : Int), oV (some (v0 * e))] from rfl), O5.g2, tw, by omega, hk8, (fun h => by cases h), fun H' A' B' pl' s' eA eB tw' O' => q H' A' B' pl' s' eA eB tw' O'.f2.drop⟩
    have O6 := O5.f1
    clear O5
    by_cases w4 : way = 4
    · subst w4
      top_raise0
      intro H5 O5
      clear O6
      have O6 := O5
      clear O5
      cases hla : lastF (pl.makes.getD k []) with
      | none =>
        have e1 : oV none = V.non := rfl
        have hls := plain_is O6
        have O7 := plain_split O6
        have hrl := areT_len (tups_is O7.f3)
        have hrz := tw.ok.n5
        rw [tw.rows] at hrz
        have hrz2 : s.rows.length < 100000 := by rw [tw.rows]; omega
        have O7 := O7.f4.drop
        clear O6
        one_sign
        rename_i H6 O8 t6 ht6 H7 O9
        refine ⟨small_size (by omega), ?_⟩
        generalize hh : upd H7 A.r _ = H8
        have O10 := (tups_push (a := rMark (pl.marks + 1)) O9.f4 ⟨t6, rfl, O9.tup 0 0 rfl⟩ hh).f1.drop
        clear O7 O8 O9 hh
        top_raise0
        intro H9 B2 eB O11
        clear O10
        top_raise0
        rw [tw.marks, decide_eq_true rfl]
        exact q H9 ⟨A.d, A.h, A.m, A.r, A.ds, A.ls, A.rv ++ [V.ref t6]⟩ B2 _ s.mark rfl eB (two_mark tw) (plain_join (A := ⟨A.d, A.h, A.m, A.r, A.ds, A.ls, A.rv ++ [V.ref t6]⟩) (pl := { pl with marks := pl.marks + 1, rows := pl.rows ++ [rMark (pl.marks + 1)] }) O11.f1.f4.f4.f4 hls)
      | some v =>
        have e1 : ¬ oV (some v) = V.non := fun e => by cases e
        top_raise0
        refine ⟨(show _ = [V.ref A.d, V.ref B.p, V.int (k : Int), oV none] from rfl), O6.f1.g2, tw, by omega, hk8, (fun _ => by rw [hla]; intro h; cases h), fun H' A' B' pl' s' eA eB tw' O' => q H' A' B' pl' s' eA eB tw' O'.f2.drop⟩
    by_cases w5 : way = 5
    · subst w5
      have hls := plain_is O6
      have O7 := (plain_split O6).f4.drop
      have hz := tw.hz
      have hhz : s.hl.length < 100000 := by have := tw.ok.n6; omega
      clear O6
      top_raise0
      refine ⟨small_size (by rw [List.length_map]; omega), ?_⟩
      generalize hh : upd _ A.h _ = H8
      have O8 := O7.f1.genS hh
      rw [show List.map V.int pl.holds ++ [V.int pl.now] = (pl.holds ++ [pl.now]).map V.int by rw [List.map_append]; rfl] at O8
      clear O7 hh
      top_raise0
      intro H9 B2 eB O9
      clear O8
      top_raise0
      rw [tw.now, decide_eq_true rfl]
      exact q H9 A B2 _ s.hold rfl eB (two_hold tw) (plain_join (pl := { pl with holds := pl.holds ++ [pl.now] }) O9.f4.f4.f3.f4 hls)
    by_cases w7 : way = 7
    · subst w7
      have O7 := O6.f1.drop
      clear O6
      top_raise0
      exact q
    by_cases w6 : way = 6
    · subst w6
      have hls6 := plain_is O6
      have O7 := (plain_split O6).f4
      have hz := tw.hz
      clear O6
      top_raise0
      rename_i p6 hp6 H6 O8
      refine neD_of (a := pl.holds) (b := []) ((DA.ints _).list (O8.at 3 0 rfl)) (DA.nil.list (O8.at 0 0 rfl)) (by decide) ?_
      have O9 := O8.drop
      clear O7 O8 hp6
      by_cases he : pl.holds = []
      · have O6 : Own H6 (plainC A pl :: [.m d (.lst (m4.map V.int))] :: houseC K B s :: R) := (plain_join (R := [.m d (.lst (m4.map V.int))] :: houseC K B s :: R) O9.g4 hls6)
        clear O9
        have hls := plain_is O6
        have O7 := plain_split O6
        have hrl := areT_len (tups_is O7.f3)
        have hrz := tw.ok.n5
        rw [tw.rows] at hrz
        have hrz2 : s.rows.length < 100000 := by rw [tw.rows]; omega
        have O7 := O7.f4.drop
        clear O6
        one_sign
        rename_i H6 O8 t6 ht6 H7 O9
        refine ⟨small_size (by omega), ?_⟩
        generalize hh : upd H7 A.r _ = H8
        have O10 := (tups_push (a := rMark (pl.marks + 1)) O9.f4 ⟨t6, rfl, O9.tup 0 0 rfl⟩ hh).f1.drop
        clear O7 O8 O9 hh
        top_raise0
        intro H9 B2 eB O11
        clear O10
        top_raise0
        rw [tw.marks, decide_eq_true rfl]
        exact q H9 ⟨A.d, A.h, A.m, A.r, A.ds, A.ls, A.rv ++ [V.ref t6]⟩ B2 _ s.mark rfl eB (two_mark tw) (plain_join (A := ⟨A.d, A.h, A.m, A.r, A.ds, A.ls, A.rv ++ [V.ref t6]⟩) (pl := { pl with marks := pl.marks + 1, rows := pl.rows ++ [rMark (pl.marks + 1)] }) O11.f1.f4.f4.f4 hls)
      · have hpos : 0 < pl.holds.length := List.length_pos_iff.mpr he
        have cl : CDivW 0 ((pl.holds.map V.int).length : Int) := by
          rw [List.length_map]
          refine ⟨by omega, ?_⟩
          rw [Int.natAbs_natCast]
          exact (Nat.log2_lt (by omega)).mpr (Nat.lt_of_lt_of_le (by omega : _ < 2 ^ 6) (Nat.pow_le_pow_right (by decide) (show 6 ≤ 9000 by decide)))
        top_raise0
        intro H7 m7 i h7 i0 i1 O10
        clear O9
        rw [List.length_map] at i1
        obtain ⟨j, rfl⟩ : ∃ j : Nat, i = (j : Int) := ⟨i.toNat, by omega⟩
        have hj : j < pl.holds.length := by omega
        obtain ⟨t, ht⟩ : ∃ t, pl.holds[j]? = some t := ⟨_, List.getElem?_eq_getElem hj⟩
        have hsi : seqIndex? (j : Int) (pl.holds.map V.int).length = some j := seqIndex_nat (by rw [List.length_map]; exact hj)
        have hgt : (pl.holds.map V.int)[j]? = some (.int t) := by rw [List.getElem?_map, ht]; rfl
        have hil : (aget s.hl t).isSome = true := (held_iff tw t).mpr (List.mem_of_getElem? ht)
        have hhz : s.hl.length < 100000 := by have := tw.ok.n6; omega
        top_raise0
        generalize hh : upd H7 A.h _ = H8
        have O11 := (O10.f2.genS hh).f1.drop
        rw [show (pl.holds.map V.int).eraseIdx j = (pl.holds.eraseIdx j).map V.int by rw [List.eraseIdx_eq_take_drop_succ, List.eraseIdx_eq_take_drop_succ, List.map_append, List.map_take, List.map_drop]] at O11
        clear hh
        refine ⟨O11.f4, hhz, hil, ?_⟩
        intro H9 B2 eB O12
        top_raise0
        rw [decide_eq_true rfl]
        exact q H9 A B2 _ (s.letGo t) rfl eB (two_letGo tw ht) (plain_join (pl := { pl with holds := pl.holds.eraseIdx j }) O12.f4.f4.f3.f4 hls6)
    · have hls := plain_is O6
      have O7 := plain_split O6
      have hrl := areT_len (tups_is O7.f3)
      have hrz := tw.ok.n5
      rw [tw.rows] at hrz
      have hrz2 : s.rows.length < 100000 := by rw [tw.rows]; omega
      have O7 := O7.f4.drop
      clear O6
      one_sign
      rename_i H6 O8 t6 ht6 H7 O9
      refine ⟨small_size (by omega), ?_⟩
      generalize hh : upd H7 A.r _ = H8
      have O10 := (tups_push (a := rMark (pl.marks + 1)) O9.f4 ⟨t6, rfl, O9.tup 0 0 rfl⟩ hh).f1.drop
      clear O7 O8 O9 hh
      top_raise0
      intro H9 B2 eB O11
      clear O10
      top_raise0
      rw [tw.marks, decide_eq_true rfl]
      exact q H9 ⟨A.d, A.h, A.m, A.r, A.ds, A.ls, A.rv ++ [V.ref t6]⟩ B2 _ s.mark rfl eB (two_mark tw) (plain_join (A := ⟨A.d, A.h, A.m, A.r, A.ds, A.ls, A.rv ++ [V.ref t6]⟩) (pl := { pl with marks := pl.marks + 1, rows := pl.rows ++ [rMark (pl.marks + 1)] }) O11.f1.f4.f4.f4 hls)
end
end SW
namespace SW
open PySem PySem.Spec PyProof.Rows L2
theorem Own.okAt {H : Hp} {L : List (List Ce)} {c : Ce} (O : Own H L) (i j : Nat) (h : (L[i]?.bind fun l => l[j]?) = some c) : c.ok H := by
  cases e : L[i]? with
  | none => rw [e] at h; cases h
  | some l =>
    rw [e] at h
    have h : l[j]? = some c := h
    exact O.ok c (List.mem_flatten.mpr ⟨l, List.mem_of_getElem? e, List.mem_of_getElem? h⟩)
section
variable {P : Program} {w : World} {K : PySem.W.Frag} {mg : Str → Option Value} {base : Heap}
def sp_law (K : PySem.W.Frag) : Sp := fun vs H Q _ => ∃ (a : Addr) (ns : List Int) (c : Ce), vs = [.ref a] ∧ Own H [[c]] ∧ (∀ H', c.ok H' → SqL K H' a (ns.map V.int)) ∧ ns.length ≤ 63 ∧ ∀ H', Q (.bl true) H'
theorem sc_law : FnScope ["script", "houses", "plains", "cell", "state", "at"] ["script"] (defScope s_law) := ⟨rfl, rfl, rfl, by decide +kernel, rfl, by decide +kernel, by decide +kernel⟩
theorem ok_law (T : Txt K mg) {fd : FuncData} (F : FunD K "law" "law" (defArgs s_law) (defBody s_law) (defScope s_law) [] [] (He.fAd K ("law", none)) fd) : FnOk P w K mg base (L2.CX P w) 10 (He.fAd K ("law", none)) fd ["script"] (sp_law K) := by
  refine F.ok sc_law (fun vs H Q E h => ?_) (fun cdv A outer s H vs Q E hr h => ?_)
  · obtain ⟨a, ns, c, rfl, _⟩ := h
    rfl
  · obtain ⟨a, ns, c, rfl, O, hc, hz, q⟩ := h
    have c2 : CDivW 0 2 := ⟨by decide, by decide⟩
    refine ⟨_, (pss_cons (ps_set (i := 1) sc_law.nd rfl (Or.inl rfl) (pe_lst (pa_cons (pe_MK0 (ok_House___init__ (K := K) T) T.glo_House T.mk_House hr) (pa_cons (pe_MK0 (ok_House___init__ (K := K) T) T.glo_House T.mk_House hr) pa_nil))))
      (pss_cons (ps_set (i := 2) sc_law.nd rfl (Or.inl rfl) (pe_lst (pa_cons (pe_D0 (ok_law_begun (K := K) T) T.glo__law_begun hr) (pa_cons (pe_D0 (ok_law_begun (K := K) T) T.glo__law_begun hr) pa_nil))))
      (pss_cons (ps_for (passes_of rfl) rfl (pi_list (pe_op op_cat (pe_lst (pa_cons pe_int pa_nil)) (pe_slice sl_list (pv 0) po_none (po_some pe_int)))) (pg_name (i := 3) sc_law.nd rfl (Or.inl rfl))
      (pss_cons (ps_set (i := 4) sc_law.nd rfl (Or.inl rfl) (pe_lst (pa_cons (pv 3) pa_nil)))
      (pss_cons (ps_set (i := 5) sc_law.nd rfl (Or.inl rfl) (pe_D (ok_law_digit (K := K) T) T.glo__law_digit hr (pa_cons (pv 4) (pa_cons pe_int pa_nil))))
      (pss_cons (ps_if (pt_not (pt_val (pe_D (ok_law_deed (K := K) T) T.glo__law_deed hr (pa_cons (pv 4) (pa_cons (pe_ix (ix_listK (K := K) rfl) (pv 2) (pv 5) (fun _ _ => rfl)) (pa_cons (pe_ix (ix_listK (K := K) rfl) (pv 1) (pv 5) (fun _ _ => rfl)) pa_nil))))))
      (pss_one (ps_ret pe_bl))
      pss_nil)
      (pss_one (ps_if (PW.pt (pw_or (pt_not (pt_val (pe_D (ok_law_right (K := K) T) T.glo__law_right hr (pa_cons (pe_ix (ix_listK (K := K) rfl) (pv 2) pe_int (fun _ _ => rfl)) (pa_cons (pe_ix (ix_listK (K := K) rfl) (pv 1) pe_int (fun _ _ => rfl)) pa_nil))))) (pw_or1 (pt_not (pt_val (pe_D (ok_law_right (K := K) T) T.glo__law_right hr (pa_cons (pe_ix (ix_listK (K := K) rfl) (pv 2) pe_int (fun _ _ => rfl)) (pa_cons (pe_ix (ix_listK (K := K) rfl) (pv 1) pe_int (fun _ _ => rfl)) pa_nil))))))))
      (pss_one (ps_ret pe_bl))
      pss_nil))))))
      (pss_one (ps_ret pe_bl))))), ?_⟩
    try dsimp only [L2.cxOf]
    intro x1 d1 nx1 nd1 ne1
    generalize hh : upd _ x1 _ = G1
    have P1 := O.genM nx1 nd1 ne1 hh
    refine ⟨x1, d1, _, rfl, P1, fun H2 B0 eB0 Q1 => ⟨rfl, ?_⟩⟩
    subst eB0
    clear hh P1 nx1 nd1 ne1
    intro x2 d2 nx2 nd2 ne2
    generalize hh : upd _ x2 _ = G2
    have P2 := Q1.genM nx2 nd2 ne2 hh
    refine ⟨x2, d2, _, rfl, P2, fun H3 B1 eB1 Q2 => ⟨rfl, ?_⟩⟩
    subst eB1
    clear hh P2 nx2 nd2 ne2 O Q1
    top_raise0
    rename_i ph hph Hh Oh
    intro H5 A0 O5
    clear Q2 Oh hph
    top_raise0
    intro H6 A1 O6
    clear O5
    top_raise0
    rename_i pp hpp H7 O7 p8 hp8 H8 O8
    refine ⟨hc _ (O8.okAt 7 0 rfl), ?_⟩
    top_raise0
    refine ⟨Nat.le_of_lt (small_size (by
      have h1 := cutV_length (ns.map V.int) none (some 40)
      rw [List.length_map] at h1
      show 1 + _ ≤ 100000
      omega)), ?_⟩
    regstrif_fact
    rename_i p9 hp9 H9 O9 L hL H10 O10
    rw [show [V.int 0] ++ cutV (ns.map V.int) none (some 40) = (0 :: ns.take 40).map V.int by
      rw [show cutV (ns.map V.int) none (some 40) = (ns.map V.int).take 40 from cut_take _ 40, List.map_cons, List.map_take]
      rfl] at O10
    have O11 : Own H10 (plainC A0 Pl.new :: houseC K B0 Ho.new :: plainC A1 Pl.new :: houseC K B1 Ho.new :: [.m L (.lst ((0 :: ns.take 40).map V.int))] :: [.m pp (.lst [.ref A0.d, .ref A1.d])] :: [.m ph (.lst [.ref B0.p, .ref B1.p])] :: [[c]]) := by
      have O12 := (O10.f1.drop).f1.drop
      clear O10
      nest_room
    clear O6 O7 O8 O9 O10 hpp hp8 hp9 hL
    top_raise0
    refine ⟨⟨_, SqL.of (O11.at 4 0 rfl)⟩, ?_⟩
    have hcl : (0 :: ns.take 40).length ≤ 41 := by
      rw [List.length_cons, List.length_take]
      omega
    generalize 0 :: ns.take 40 = cells at *
    generalize ed0 : A0.d = d0 at *
    generalize ed1 : A1.d = d1 at *
    generalize ep0 : B0.p = p0 at *
    generalize ep1 : B1.p = p1 at *
    refine forL (xs := cells.map V.int) (fun i σ H => Stp (∃ z1 z2 z3 A0' A1' B0' B1' pl0 pl1 s0 s1, A0'.d = d0 ∧ A1'.d = d1 ∧ B0'.p = p0 ∧ B1'.p = p1 ∧ Two pl0 s0 i ∧ Two pl1 s1 i ∧ σ = [some (.ref a), some (.ref ph), some (.ref pp), z1, z2, z3] ∧
        Own H (plainC A0' pl0 :: houseC K B0' s0 :: plainC A1' pl1 :: houseC K B1' s1 :: [.m L (.lst (cells.map V.int))] :: [.m pp (.lst [.ref d0, .ref d1])] :: [.m ph (.lst [.ref p0, .ref p1])] :: [[c]])))
      ⟨_, _, _, A0, A1, B0, B1, Pl.new, Pl.new, Ho.new, Ho.new, ed0, ed1, ep0, ep1, two_new, two_new, rfl, O11⟩ (fun i σ H ⟨_, _, _, _, _, _, _, _, _, _, _, _, _, _, _, _, _, _, O12⟩ => SqL.of (O12.at 4 0 rfl)) ?_ ?_
    · rintro i x σ H12 hx ⟨z1, z2, z3, A0', A1', B0', B1', pl0, pl1, s0, s1, e0, e1, e2, e3, tw0, tw1, rfl, O12⟩
      clear O11 ed0 ed1 ep0 ep1
      have hil := (List.getElem?_eq_some_iff.mp hx).1
      rw [List.length_map] at hil
      obtain ⟨cell, rfl⟩ : ∃ cell, x = .int cell := by
        rw [List.getElem?_map] at hx
        cases e : cells[i]? with
        | none =>
          rw [e] at hx
          cases hx
        | some n =>
          rw [e] at hx
          exact ⟨n, (Option.some.inj hx).symm⟩
      rw [← e0, ← e1, ← e2, ← e3] at O12 ⊢
      top_raise0
      rename_i S hS H13 O13
      refine ⟨(show Own H13 ([.m S (.lst ([cell].map V.int))] :: _) from O13), c2, .inl rfl, ?_⟩
      intro H14 ms at_ hm a0 a2 O14
      clear O12 O13 hS
      rcases (by omega : at_ = 0 ∨ at_ = 1) with h | h
      · subst h
        have t1 : Two pl1 s1 (i + 1) := tw1.mono (Nat.le_succ i)
        top_raise0
        intro H15 A2 B2 pl2 s2 eA eB tw2 O15
        clear O14
        rw [← eA, ← eB] at O15 ⊢
        top_raise0
        intro H16 O16
        clear O15
        top_raise0
        refine ⟨O16.f3.f3, t1, by omega, ?_⟩
        intro H17 O17
        top_raise0
        exact ⟨some (.int cell), some (.ref S), some (.int 0), A2, A1', B2, B1', pl2, pl1, s2, s1, rfl, rfl, rfl, rfl, tw2, t1, rfl, O17.f3.f3⟩
      · subst h
        have t0 : Two pl0 s0 (i + 1) := tw0.mono (Nat.le_succ i)
        have O15 := O14.f4.f4.f2
        clear O14
        top_raise0
        intro H15 A2 B2 pl2 s2 eA eB tw2 O16
        clear O15
        have O15 := O16.f3.f3
        clear O16
        rw [← eA, ← eB] at O15 ⊢
        top_raise0
        intro H16 O16
        clear O15
        top_raise0
        refine ⟨O16.f3.f3, tw2, by omega, ?_⟩
        intro H17 O17
        top_raise0
        exact ⟨some (.int cell), some (.ref S), some (.int 1), A0', A2, B0', B2, pl0, pl2, s0, s2, rfl, rfl, rfl, rfl, t0, tw2, rfl, O17.f3.f3⟩
    · rintro σ H12 ⟨z1, z2, z3, A0', A1', B0', B1', pl0, pl1, s0, s1, e0, e1, e2, e3, tw0, tw1, rfl, O12⟩
      top_raise0
      exact q _
end
end SW
namespace SW
open PySem PySem.Spec PyProof.Rows L2
/-! ### the head's look at what the top has made: no search, one way down from the module's names -/
def refsF (g : Addr → Option Obj) (a : Addr) : List Addr := match g a with
  | some ⟨_, _, .func fd, _⟩ => a :: (He.refV fd.code ++ He.refV fd.defaults)
  | _ => [a]
def refsC (g : Addr → Option Obj) (a : Addr) : List Addr := match g a with
  | some ⟨_, _, .func fd, _⟩ => a :: (He.refV fd.code ++ He.refV fd.defaults)
  | some ⟨_, _, .cls cd, _⟩ => a :: cd.ns :: (match g cd.ns with
    | some ⟨_, _, .dict es _, _⟩ => es.toList.flatMap fun e => (He.refV e.val).flatMap (refsF g)
    | _ => [])
  | some ⟨_, _, .dict es _, _⟩ => a :: es.toList.flatMap fun e => He.refV e.val
  | _ => [a]
def refsT (g : Addr → Option Obj) : List Addr := mainGlobals :: (match g mainGlobals with
  | some ⟨_, _, .dict es _, _⟩ => es.toList.flatMap fun e => (He.refV e.val).flatMap (refsC g)
  | _ => [])
/-- each list item forced ahead of the rest -/
def forced {β : Type} (k : List Addr → β) : List Addr → List Addr → β
  | [], acc => k acc
  | a :: l, acc => HandSHeadRun.frNat a fun a => forced k l (a :: acc)
theorem forced_ex {β : Type} (k : List Addr → β) : ∀ l acc, ∃ as, forced k l acc = k as
  | [], acc => ⟨acc, rfl⟩
  | a :: l, acc => by
    obtain ⟨as, h⟩ := forced_ex k l (a :: acc)
    refine ⟨as, ?_⟩
    show HandSHeadRun.frNat a (fun a => forced k l (a :: acc)) = _
    rw [HandSHeadRun.frNat_eq]
    exact h
def obsX (fa : List He.Fa) (fn : List He.DefD) (g : Addr → Option Obj) : He.AlD := forced (fun as => He.obsD fa fn (He.frG g as)) (refsT g) []
def hookX (fa : List He.Fa) (fn : List He.DefD) : PySem.W.Hook where
  α := He.AlD
  obs s := obsX fa fn s.heap.get?
  val _ := He.valD fn
  says _ h := ∃ K : PySem.W.Frag, He.SaysD fa fn K ∧ K.In h
  of _ s e := by
    obtain ⟨as, q⟩ := forced_ex (fun as => He.obsD fa fn (He.frG s.heap.get? as)) (refsT s.heap.get?) []
    exact ⟨He.frG s.heap.get? as, q.symm.trans e, He.frG_in⟩
  keeps _ _ _ h k := h.elim fun K z => ⟨K, z.1, z.2.keeps k⟩
theorem obsX_eq {fa : List He.Fa} {fn : List He.DefD} {g : Addr → Option Obj} {s : Shared} (h : ∀ a, g a = s.heap.get? a) : obsX fa fn g = (hookX fa fn).obs s := by
  have e := funext h
  subst e
  rfl
end SW
namespace SW
open PySem PySem.Spec PyProof.Rows L2
abbrev Rw : PySem.W.OpenRow := PySem.W.OpenLaw.row PySem.Challenge.rw_staywalk_k48_two_houses
abbrev hk : PySem.W.Hook := hookX faL fnL
def ob (s : PySem.W.SharedT) : He.AlD := obsX faL fnL (HandSHeadRun.getT s)
theorem ob_eq (s : PySem.W.SharedT) : ob s = hk.obs s.abs := obsX_eq (HandSHeadRun.getT_eq s)
def loose0 : List Str := ["_wall", "WalkError", "NoKey", "Twice", "TooOld", "NoMoment", "MOST_KEYS", "LEAST_OF_TWO", "Leaves", "needed", "Makes", "PLACES", "mark_of", "slot_of", "LEAST_SIZE", "MOST_SIZE", "Bank", "Slots", "House", "_law_cell_at", "_law_digit", "_law_begun", "_law_last", "_law_changed", "_law_swept", "_law_deed", "_law_right"]
def loose : List Str := loose0
theorem run (w : World) : HandSHeadRun.RunEq Rw (PySem.W.view Rw.prog [34]) hk ob 9000 loose w := by
  intro os
  kernel_rfl
end SW
namespace SW
open PySem PySem.Spec PyProof.Rows L2
/-- nothing is let out -/
theorem free0 {P : Program} {w : World} {K : PySem.W.Frag} {mg : Str → Option Value} {base : Heap} {k : Nat} {f : Addr} {fd : FuncData} {ps : List Str} {sp : Sp} (F : FnOk P w K mg base (L2.CX P w) k f fd ps sp) (h : ∀ vs H Q E, sp vs H Q E → sp vs H Q E0) :
    FnOk P w K mg base CX0 k f fd ps sp := by
  refine ⟨F.len, fun A outer s H args us vs Q E hr he hb hv hs => codeAny_mono (F.run A outer s H args us vs Q E0 hr he hb hv (h _ _ _ _ hs)) fun r s2 c => ?_⟩
  cases r with
  | ok fl => cases fl <;> exact c
  | error e =>
    obtain ⟨_, _, _, _, _, _, _, _, _, _, _, _, z⟩ := c
    exact z.elim
theorem law_facts {P : Program} {w : World} {K : PySem.W.Frag} {h : Heap} {mg : Str → Option Value} {f : Addr} (X : K.In h) (G : h.Ns mainGlobals mg) (hfa : mg ("law" : Str) = some (.ref f)) (c : He.SaysD faL fnL K) :
    ∃ fd : FuncData, (∀ (s : Shared) (v : Value), BindsTo s fd ⟨[v], []⟩ [("script", v)]) ∧ ∀ base : Heap, K.In base → base.Ns mainGlobals mg → FnOk P w K mg base CX0 10 f fd ["script"] (sp_law K) := by
  have T : Txt K mg := ⟨⟨h, X, G⟩, c⟩
  obtain ⟨fd, F⟩ := T.f_law
  have e := hfa.symm.trans T.glo_law
  cases e
  have b := FunD.bindsA (ps := ["script"]) F fun _ _ _ _ _ _ us hl => match us, hl with | [_], _ => rfl
  exact ⟨fd, fun s v => b s [v] rfl, fun base _ _ => free0 (ok_law T F) fun _ _ _ _ q => q⟩
/-- the script at the law's call -/
theorem script_own {K : PySem.W.Frag} {H : Hp} {a : Addr} {xs : List V} (o : Only H) (h : SqL K H a xs) : ∃ c : Ce, Own H [[c]] ∧ ∀ H', c.ok H' → SqL K H' a xs := by
  have one : ∀ φ : Hp → Prop, φ H → Stable φ → Own H [[.p φ]] := fun φ p s => ⟨fun c hc => by
    rw [show c = .p φ by simpa using hc]
    exact ⟨p, s⟩, List.nodup_nil⟩
  rcases h with h | h
  · rcases o a with n | ⟨ob, ys, e⟩
    · rcases h with h | ⟨_, h⟩ <;> rw [n] at h <;> cases h
    · refine ⟨.p fun H' => H' a = some (.frz ob (.lst ys)), one _ e fun H1 H2 k q => k a _ q rfl, fun H' q => ?_⟩
      rcases h with h | ⟨o2, h⟩
      · rw [e] at h
        cases h
      · rw [e] at h
        cases h
        exact .inl (.inr ⟨_, q.1⟩)
  · exact ⟨pu (∃ (o : Obj) (its : Array Value) (n : Nat), K.lookup a = some o ∧ o.cls = .type "list" ∧ o.dict = none ∧ o.data = .seq its n ∧ its.size ≤ sizeLine ∧ Vals xs its.toList), one _ h st_pu, fun H' q => .inr q.1⟩
end SW
open PySem PySem.W PySem.Calls PyProof.Rows
theorem PySem.Challenge.cw_staywalk_k48_two_houses_holds : PySem.Challenge.rw_staywalk_k48_two_houses.Holds := by
  w_on; o_law
  refine HandSHeadRun.head_any (r := OpenLaw.row PySem.Challenge.rw_staywalk_k48_two_houses) (q := view (OpenLaw.row PySem.Challenge.rw_staywalk_k48_two_houses).prog [34]) (H := SW.hk) (ob := SW.ob) (M := 9000) (loose := SW.loose) (d := HandSHeadRun.topDef (OpenLaw.row PySem.Challenge.rw_staywalk_k48_two_houses).prog 34) (kwd := []) SW.ob_eq
    (by kernel_rfl) (fun s => by kernel_rfl) SW.run (by kernel_rfl) (by kernel_rfl) (by kernel_rfl) (by rfl) (by first | assumption | decide +kernel) (by decide +kernel) ⟨rfl, rfl, rfl, rfl, rfl, by decide +kernel⟩ ?hw ?hc
  case hw => w_witness2
  case hc =>
    refine L2.walk_ofE (l := PySem.Challenge.rw_staywalk_k48_two_houses) (n := 63) (k := 10) (x := "script") (CX := L2.CX0) rfl (by decide) (by kernel_rfl) ⟨rfl, by decide, by decide⟩ ?F (fun _ _ _ _ z => z)
    intro w mg fa h Y G hmg0
    obtain ⟨K, c, KX⟩ := Y
    have hmg : mg ("law" : PySem.Str) = some (.ref fa) := by
      have e : (HandSHeadRun.topDef (OpenLaw.row PySem.Challenge.rw_staywalk_k48_two_houses).prog 34).name = ("law" : PySem.Str) := by kernel_rfl
      rw [← e]
      exact hmg0
    obtain ⟨fd, hb, hF⟩ := SW.law_facts (P := (PySem.Challenge.rw_staywalk_k48_two_houses).prog) (w := w) KX G hmg c
    refine ⟨K, fd, SW.sp_law K, KX, hb, fun H a ns hl ho hS => ?_, hF⟩
    obtain ⟨cc, O, hcc⟩ := SW.script_own ho hS
    exact ⟨a, ns, cc, rfl, O, hcc, hl, fun _ => rfl⟩
