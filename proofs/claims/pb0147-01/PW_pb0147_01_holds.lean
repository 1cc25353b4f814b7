import PyProof.Rows.All
import Wide.All
import OpenK.AllK
import Wide.FinOn
import PySem.Challenge.RW_pb0147_01
set_option Elab.async false
set_option linter.unusedVariables false
section
open PySem PySem.W PyProof.Rows
namespace Mine
set_option maxRecDepth 100000 in
set_option maxHeartbeats 8000000 in
open_top hd for PySem.Challenge.rw_pb0147_01
end Mine
end
section
open PySem PySem.W PyProof.Rows PySem.Calls
set_option maxRecDepth 100000
namespace Mine

abbrev Le (g h : Heap) : Prop := ∀ b o, g.get? b = some o → h.get? b = some o
theorem Le.rfl' {g : Heap} : Le g g := fun _ _ e => e
theorem Le.trans' {a b c : Heap} (x : Le a b) (y : Le b c) : Le a c := fun _ _ e => y _ _ (x _ _ e)

/-- the state as a body sees it: frozen heap g below h, its frame L with map m, volatile objects V -/
structure Fm (base g : Heap) (L : Addr) (m : Str → Option Value) (V : List (Addr × Obj)) (h : Heap) : Prop where
  F : Fr base L h m
  le : Le g h
  leb : Le base g
  offL : g.get? L = none
  vol : ∀ p ∈ V, h.get? p.1 = some p.2
  off : ∀ p ∈ V, g.get? p.1 = none
  nd : (L :: V.map (·.1)).Nodup

section
variable {base g g' h h' : Heap} {L a : Addr} {m m' : Str → Option Value} {V V1 V2 : List (Addr × Obj)} {o o' : Obj}

theorem Fm.volL (F : Fm base g L m V h) : ∀ p ∈ V, p.1 ≠ L := fun p hp e => by
  have := F.nd
  rw [List.nodup_cons] at this
  exact this.1 (e ▸ List.mem_map_of_mem hp)
theorem Fm.lt (F : Fm base g L m V h) : L < h.objs.size := F.F.ns.lt
theorem Fm.get (F : Fm base g L m V h) (hp : (a, o) ∈ V) : h.get? a = some o := F.vol _ hp

/-- the frame's map turned -/
theorem Fm.set (F : Fm base g L m V h) (hn : h'.Ns L m') (hs : Heap.SameBut L h h') : Fm base g L m' V h' where
  F := F.F.set hn hs
  le := fun b o e => (hs.2 b (by rintro rfl; rw [F.offL] at e; cases e)).trans (F.le _ _ e)
  leb := F.leb
  offL := F.offL
  vol := fun p hp => (hs.2 p.1 (F.volL p hp)).trans (F.vol p hp)
  off := F.off
  nd := F.nd

/-- a heap that grew -/
theorem Fm.grow (F : Fm base g L m V h) (k : Le h h') : Fm base g L m V h' where
  F := F.F.keeps k
  le := Le.trans' F.le k
  leb := F.leb
  offL := F.offL
  vol := fun p hp => k _ _ (F.vol p hp)
  off := F.off
  nd := F.nd

/-- any ghost between -/
theorem Fm.ghost (F : Fm base g L m V h) (le : Le g g') (up : Le g' h) (new : ∀ b o, g'.get? b = some o → b ≠ L ∧ ∀ p ∈ V, p.1 ≠ b) : Fm base g' L m V h where
  F := F.F
  le := up
  leb := Le.trans' F.leb le
  offL := by cases e : g'.get? L with | none => rfl | some o => exact absurd rfl (new _ _ e).1
  vol := F.vol
  off := fun p hp => by cases e : g'.get? p.1 with | none => rfl | some o => exact absurd rfl ((new _ _ e).2 p hp)
  nd := F.nd

theorem hide_ghost (L : Addr) (V : List (Addr × Obj)) (h : Heap) (b : Addr) (o : Obj) : (hideAll h (L :: V.map (·.1))).get? b = some o → b ≠ L ∧ ∀ p ∈ V, p.1 ≠ b := by
  intro e
  have : b ∉ L :: V.map (·.1) := fun q => by rw [hideAll_none _ q] at e; cases e
  rw [List.mem_cons, not_or] at this
  exact ⟨this.1, fun p hp q => this.2 (q ▸ List.mem_map_of_mem hp)⟩

/-- freeze everything that is not volatile -/
theorem Fm.freeze (F : Fm base g L m V h) : ∃ g', Fm base g' L m V h ∧ Le g g' ∧ ∀ b o, h.get? b = some o → b ≠ L → (∀ p ∈ V, p.1 ≠ b) → g'.get? b = some o := by
  refine ⟨hideAll h (L :: V.map (·.1)), F.ghost (fun b o e => hideAll_get _ (F.le _ _ e) ?_) (fun b o e => of_hideAll _ e) (fun b o e => hide_ghost L V h b o e), fun b o e => hideAll_get _ (F.le _ _ e) ?_, fun b o e h1 h2 => hideAll_get _ e ?_⟩
  · intro q
    rcases List.mem_cons.mp q with rfl | q
    · rw [F.offL] at e; cases e
    · obtain ⟨p, hp, rfl⟩ := List.mem_map.mp q; rw [F.off p hp] at e; cases e
  · intro q
    rcases List.mem_cons.mp q with rfl | q
    · rw [F.offL] at e; cases e
    · obtain ⟨p, hp, rfl⟩ := List.mem_map.mp q; rw [F.off p hp] at e; cases e
  · intro q
    rcases List.mem_cons.mp q with rfl | q
    · exact h1 rfl
    · obtain ⟨p, hp, rfl⟩ := List.mem_map.mp q; exact h2 p hp rfl

/-- the heap grew by whole new objects: freeze them -/
theorem Fm.grown (F : Fm base g L m V h) (k : Le h h') : ∃ g', Fm base g' L m V h' ∧ Le g g' ∧ ∀ b o, h'.get? b = some o → h.get? b = none → g'.get? b = some o := by
  obtain ⟨g', F', l, n⟩ := (F.grow k).freeze
  refine ⟨g', F', l, fun b o e q => n b o e ?_ ?_⟩
  · rintro rfl; obtain ⟨_, _, _, x, _⟩ := F.F.ns; rw [q] at x; cases x
  · rintro p hp rfl; rw [F.vol p hp] at q; cases q

theorem get_size_none (h : Heap) : h.get? h.objs.size = none := by
  cases e : h.get? h.objs.size with
  | none => rfl
  | some o => exact absurd (Heap.lt_size e) (Nat.lt_irrefl _)

/-- a new object, frozen at once -/
theorem Fm.alloc (F : Fm base g L m V h) (o : Obj) (hf : o.isFreed = false) : ∃ g', Fm base g' L m V (h.push o) ∧ Le g g' ∧ g'.get? h.objs.size = some o := by
  obtain ⟨g', F', l, n⟩ := F.grown (h' := h.push o) fun _ _ e => Heap.get?_push_of_some o e
  exact ⟨g', F', l, n _ _ (Heap.get?_push_size _ hf) (get_size_none h)⟩

/-- a new object, volatile -/
theorem Fm.allocV (F : Fm base g L m V h) (o : Obj) (hf : o.isFreed = false) : Fm base g L m ((h.objs.size, o) :: V) (h.push o) := by
  have G := F.grow (h' := h.push o) fun _ _ e => Heap.get?_push_of_some o e
  refine { F := G.F, le := G.le, leb := G.leb, offL := G.offL, vol := ?_, off := ?_, nd := ?_ }
  · intro p hp
    rcases List.mem_cons.mp hp with rfl | hp
    · exact Heap.get?_push_size _ hf
    · exact G.vol p hp
  · intro p hp
    rcases List.mem_cons.mp hp with rfl | hp
    · cases e : g.get? h.objs.size with
      | none => rfl
      | some o => exact absurd (Heap.lt_size (F.le _ _ e)) (Nat.lt_irrefl _)
    · exact G.off p hp
  · have nd := F.nd
    rw [List.nodup_cons] at nd ⊢
    rw [List.map_cons, List.nodup_cons, List.mem_cons, not_or]
    refine ⟨⟨Nat.ne_of_lt F.lt, nd.1⟩, fun q => ?_, nd.2⟩
    obtain ⟨p, hp, e⟩ := List.mem_map.mp q
    have := Heap.lt_size (F.vol p hp)
    dsimp only at e
    rw [e] at this
    exact Nat.lt_irrefl _ this

/-- a volatile object that is alone in being new (its address was free) -/
theorem Fm.addV (F : Fm base g L m V h) (k : Le h h') (hn : h.get? a = none) (ho : h'.get? a = some o) : Fm base g L m ((a, o) :: V) h' := by
  have G := F.grow k
  refine { F := G.F, le := G.le, leb := G.leb, offL := G.offL, vol := ?_, off := ?_, nd := ?_ }
  · intro p hp
    rcases List.mem_cons.mp hp with rfl | hp
    · exact ho
    · exact G.vol p hp
  · intro p hp
    rcases List.mem_cons.mp hp with rfl | hp
    · cases e : g.get? a with
      | none => rfl
      | some o => have := F.le _ _ e; rw [hn] at this; cases this
    · exact G.off p hp
  · have nd := F.nd
    rw [List.nodup_cons] at nd ⊢
    rw [List.map_cons, List.nodup_cons, List.mem_cons, not_or]
    refine ⟨⟨?_, nd.1⟩, fun q => ?_, nd.2⟩
    · rintro rfl; obtain ⟨_, _, _, x, _⟩ := F.F.ns; rw [hn] at x; cases x
    · obtain ⟨p, hp, e⟩ := List.mem_map.mp q
      have := F.vol p hp
      dsimp only at e
      rw [e, hn] at this; cases this

theorem Fm.drop (F : Fm base g L m ((a, o) :: V) h) : Fm base g L m V h where
  F := F.F
  le := F.le
  leb := F.leb
  offL := F.offL
  vol := fun p hp => F.vol p (.tail _ hp)
  off := fun p hp => F.off p (.tail _ hp)
  nd := by
    have nd := F.nd
    rw [List.map_cons] at nd
    exact nd.sublist (List.Sublist.cons_cons _ (List.sublist_cons_self _ _))

/-- volatile to frozen -/
theorem Fm.freezeV (F : Fm base g L m ((a, o) :: V) h) : ∃ g', Fm base g' L m V h ∧ Le g g' ∧ g'.get? a = some o := by
  obtain ⟨g', F', l, n⟩ := F.drop.freeze
  have nd := F.nd
  rw [List.map_cons, List.nodup_cons, List.nodup_cons, List.mem_cons, not_or] at nd
  exact ⟨g', F', l, n a o (F.vol _ (.head _)) (fun e => nd.1.1 e.symm) fun p hp e => nd.2.1 (List.mem_map.mpr ⟨p, hp, e⟩)⟩

/-- volatile objects in another order -/
theorem Fm.perm (F : Fm base g L m V h) (p : V.Perm V1) : Fm base g L m V1 h where
  F := F.F
  le := F.le
  leb := F.leb
  offL := F.offL
  vol := fun q hq => F.vol q (p.mem_iff.mpr hq)
  off := fun q hq => F.off q (p.mem_iff.mpr hq)
  nd := ((p.map _).cons L).nodup_iff.mp F.nd

/-- a volatile object turned -/
theorem Fm.upd (F : Fm base g L m (V1 ++ (a, o) :: V2) h) (hs : Heap.ExtBut a h h') (ho : h'.get? a = some o') : Fm base g L m (V1 ++ (a, o') :: V2) h' := by
  have ha : (a, o) ∈ V1 ++ (a, o) :: V2 := by simp
  have offa := F.off _ ha
  have aL := F.volL _ ha
  have nd := F.nd
  have k1 : ∀ p ∈ V1, p.1 ≠ a := by
    intro p hp e
    rw [List.nodup_cons, List.map_append, List.map_cons, List.nodup_append] at nd
    exact nd.2.2.2 _ (List.mem_map_of_mem hp) _ (.head _) e
  have k2 : ∀ p ∈ V2, p.1 ≠ a := by
    intro p hp e
    rw [List.nodup_cons, List.map_append, List.map_cons, List.nodup_append, List.nodup_cons] at nd
    exact nd.2.2.1.1 (List.mem_map.mpr ⟨p, hp, e⟩)
  have up : Le g h' := fun b x e => hs b x (by rintro rfl; rw [offa] at e; cases e) (F.le _ _ e)
  refine { F := ⟨F.F.ns.extBut hs (Ne.symm aL), Le.trans' F.leb up, F.F.above⟩, le := up, leb := F.leb, offL := F.offL, vol := ?_, off := ?_, nd := by simpa using nd }
  · intro p hp
    rcases List.mem_append.mp hp with q | q
    · exact hs _ _ (k1 p q) (F.vol p (List.mem_append_left _ q))
    · rcases List.mem_cons.mp q with rfl | q
      · exact ho
      · exact hs _ _ (k2 p q) (F.vol p (by simp [q]))
  · intro p hp
    rcases List.mem_append.mp hp with q | q
    · exact F.off p (by simp [q])
    · rcases List.mem_cons.mp q with rfl | q
      · exact offa
      · exact F.off p (by simp [q])

/-- a volatile object given up, whatever became of it -/
theorem Fm.away (F : Fm base g L m ((a, o) :: V) h) (hs : Heap.ExtBut a h h') : Fm base g L m V h' := by
  have D := F.drop
  have off := F.off (a, o) (.head _)
  have nd := F.nd
  rw [List.map_cons, List.nodup_cons, List.nodup_cons, List.mem_cons, not_or] at nd
  have up : Le g h' := fun b x e => hs b x (by rintro rfl; rw [off] at e; cases e) (F.le _ _ e)
  exact { F := ⟨F.F.ns.extBut hs nd.1.1, Le.trans' F.leb up, F.F.above⟩, le := up, leb := F.leb, offL := F.offL,
          vol := fun p hp => hs _ _ (fun e => nd.2.1 (List.mem_map.mpr ⟨p, hp, e⟩)) (F.vol p (.tail _ hp)), off := D.off, nd := D.nd }

def NsObj (o : Obj) (m : Str → Option Value) : Prop := ∃ es ep, o.data = .dict es ep ∧ StrKeys es ∧ ∀ name, nsFind es name = m name
theorem NsObj.ns (x : NsObj o m) (e : h.get? a = some o) : h.Ns a m := let ⟨es, ep, hd, r⟩ := x; ⟨o, es, ep, e, hd, r⟩
theorem ns_obj (x : h.Ns a m) : ∃ o, h.get? a = some o ∧ NsObj o m := let ⟨o, es, ep, e, hd, r⟩ := x; ⟨o, e, es, ep, hd, r⟩

/-- into a frame of its own: the outer frame becomes a volatile object -/
theorem Fm.under {L' : Addr} (F : Fm base g L m V h) (k : Le h h') (hn : h'.Ns L' m') (hLs : h.objs.size ≤ L') : ∃ oL, NsObj oL m ∧ Fm base g L' m' ((L, oL) :: V) h' := by
  obtain ⟨oL, e, q⟩ := ns_obj F.F.ns
  have hL : h.get? L' = none := Heap.get?_none_of_le hLs
  have hb : base.objs.size ≤ L' := Nat.le_trans F.F.above (Nat.le_trans (Nat.le_of_lt F.lt) hLs)
  refine ⟨oL, q, ?_⟩
  refine { F := ⟨hn, fun b o e => k _ _ (F.F.keep b o e), hb⟩, le := Le.trans' F.le k, leb := F.leb, offL := ?_, vol := ?_, off := ?_, nd := ?_ }
  · cases e : g.get? L' with
    | none => rfl
    | some o => have := F.le _ _ e; rw [hL] at this; cases this
  · intro p hp
    rcases List.mem_cons.mp hp with rfl | hp
    · exact k _ _ e
    · exact k _ _ (F.vol p hp)
  · intro p hp
    rcases List.mem_cons.mp hp with rfl | hp
    · exact F.offL
    · exact F.off p hp
  · rw [List.map_cons, List.nodup_cons]
    refine ⟨fun hm => ?_, F.nd⟩
    rcases List.mem_cons.mp hm with q | q
    · subst q; rw [hL] at e; cases e
    · obtain ⟨p, hp, z⟩ := List.mem_map.mp q
      have := F.vol p hp
      rw [z, hL] at this; cases this

theorem Fm.back {L' : Addr} {oL : Obj} (F : Fm base g L' m' ((L, oL) :: V) h) (q : NsObj oL m) (hb : base.objs.size ≤ L) : Fm base g L m V h where
  F := ⟨q.ns (F.vol _ (.head _)), F.F.keep, hb⟩
  le := F.le
  leb := F.leb
  offL := F.off _ (.head _)
  vol := fun p hp => F.vol p (.tail _ hp)
  off := fun p hp => F.off p (.tail _ hp)
  nd := by
    have nd := F.nd
    rw [List.nodup_cons, List.map_cons] at nd
    exact nd.2
end

/-- room to call: n levels -/
structure Room (A : Around) (n : Nat) : Prop where
  handled : A.handled = none
  depth : A.depth + n < recursionLimit
  units : A.units + 8 * n + 100 < cLine
theorem Room.deeper {A : Around} {n : Nat} (r : Room A (n + 1)) (env : Env) : Room (A.deeper env) n :=
  ⟨r.handled, by have := r.depth; show A.depth + 1 + n < _; omega, by have := r.units; show A.units + 3 + 8 * n + 100 < _; omega⟩
theorem Room.in1 {A : Around} {n : Nat} (r : Room A (n + 1)) : Room A.in1 n :=
  ⟨r.handled, by have := r.depth; show A.depth + n < _; omega, by have := r.units; show A.units + 1 + 8 * n + 100 < _; omega⟩
theorem Room.le {A : Around} {n k : Nat} (r : Room A n) (h : k ≤ n) : Room A k :=
  ⟨r.handled, by have := r.depth; omega, by have := r.units; omega⟩
end Mine
end
namespace Mine
section
open PySem PySem.W PyProof.Rows PySem.Calls
section
open PySem PySem.W PyProof.Rows PySem.Calls
set_option maxRecDepth 100000
noncomputable abbrev Kf (P : Params) : Frag := hd.heap_39 P
abbrev pg : Program := PySem.Challenge.pw_pb0147_01

structure Md (w : World) (base : Heap) (mg mb : Str → Option Value) : Prop where
  X : (Kf w.params).In base
  G : base.Ns mainGlobals mg
  B : base.Ns builtinsNs mb
  lim : base.NoLimit
  bl : ∀ x : Str, x ≠ "__name__" → mb x = bootBuiltins x

/-- the built-in names that the text asks for -/
inductive Bn : Str → Value → Prop
  | n0 : Bn "max" (.builtin "max")
  | n1 : Bn "tuple" (.type "tuple")
  | n2 : Bn "sorted" (.builtin "sorted")
  | n3 : Bn "list" (.type "list")
  | n4 : Bn "len" (.builtin "len")
  | n5 : Bn "range" (.type "range")
  | n6 : Bn "abs" (.builtin "abs")
  | n7 : Bn "int" (.type "int")
  | n8 : Bn "dict" (.type "dict")
  | n9 : Bn "zip" (.type "zip")
  | n10 : Bn "set" (.type "set")
/-- the names of the text itself -/
inductive Gl : Str → Addr → Prop
  | n0 : Gl "ClassDef" 64
  | n1 : Gl "classes_of_rows" 75
  | n2 : Gl "common_parts" 82
  | n3 : Gl "_law_draw" 89
  | n4 : Gl "_law_classes" 96
  | n5 : Gl "_law_parting" 101
  | n6 : Gl "_law_marks" 106
  | n7 : Gl "_law_both_hold" 111
section
variable {w : World} {base : Heap} {mg mb : Str → Option Value}
theorem gl_ClassDef (D : Md w base mg mb) : mg "ClassDef" = some (.ref 64) := mg_of D.X D.G rfl
theorem gl_rows (D : Md w base mg mb) : mg "classes_of_rows" = some (.ref 75) := mg_of D.X D.G rfl
theorem gl_common (D : Md w base mg mb) : mg "common_parts" = some (.ref 82) := mg_of D.X D.G rfl
theorem gl_draw (D : Md w base mg mb) : mg "_law_draw" = some (.ref 89) := mg_of D.X D.G rfl
theorem gl_classes (D : Md w base mg mb) : mg "_law_classes" = some (.ref 96) := mg_of D.X D.G rfl
theorem gl_parting (D : Md w base mg mb) : mg "_law_parting" = some (.ref 101) := mg_of D.X D.G rfl
theorem gl_marks (D : Md w base mg mb) : mg "_law_marks" = some (.ref 106) := mg_of D.X D.G rfl
theorem gl_both (D : Md w base mg mb) : mg "_law_both_hold" = some (.ref 111) := mg_of D.X D.G rfl
theorem bn_of (D : Md w base mg mb) {x : Str} {v : Value} (h1 : nsIn (Kf w.params) mainGlobals x = some none) (h2 : bootBuiltins x = some v) (h3 : x ≠ "__name__") : mg x = none ∧ mb x = some v :=
  ⟨mg_none_of D.X D.G h1, (D.bl x h3).trans h2⟩
theorem bn_max (D : Md w base mg mb) : mg "max" = none ∧ mb "max" = some (.builtin "max") := bn_of D rfl rfl (by decide)
theorem bn_tuple (D : Md w base mg mb) : mg "tuple" = none ∧ mb "tuple" = some (.type "tuple") := bn_of D rfl rfl (by decide)
theorem bn_sorted (D : Md w base mg mb) : mg "sorted" = none ∧ mb "sorted" = some (.builtin "sorted") := bn_of D rfl rfl (by decide)
theorem bn_list (D : Md w base mg mb) : mg "list" = none ∧ mb "list" = some (.type "list") := bn_of D rfl rfl (by decide)
theorem bn_len (D : Md w base mg mb) : mg "len" = none ∧ mb "len" = some (.builtin "len") := bn_of D rfl rfl (by decide)
theorem bn_range (D : Md w base mg mb) : mg "range" = none ∧ mb "range" = some (.type "range") := bn_of D rfl rfl (by decide)
theorem bn_abs (D : Md w base mg mb) : mg "abs" = none ∧ mb "abs" = some (.builtin "abs") := bn_of D rfl rfl (by decide)
theorem bn_int (D : Md w base mg mb) : mg "int" = none ∧ mb "int" = some (.type "int") := bn_of D rfl rfl (by decide)
theorem bn_dict (D : Md w base mg mb) : mg "dict" = none ∧ mb "dict" = some (.type "dict") := bn_of D rfl rfl (by decide)
theorem bn_zip (D : Md w base mg mb) : mg "zip" = none ∧ mb "zip" = some (.type "zip") := bn_of D rfl rfl (by decide)
theorem bn_set (D : Md w base mg mb) : mg "set" = none ∧ mb "set" = some (.type "set") := bn_of D rfl rfl (by decide)
theorem bn_tab (D : Md w base mg mb) {x : Str} {v : Value} (h : Bn x v) : mg x = none ∧ mb x = some v := by
  cases h
  · exact bn_max D
  · exact bn_tuple D
  · exact bn_sorted D
  · exact bn_list D
  · exact bn_len D
  · exact bn_range D
  · exact bn_abs D
  · exact bn_int D
  · exact bn_dict D
  · exact bn_zip D
  · exact bn_set D
theorem gl_tab (D : Md w base mg mb) {x : Str} {a : Addr} (h : Gl x a) : mg x = some (.ref a) := by
  cases h
  · exact gl_ClassDef D
  · exact gl_rows D
  · exact gl_common D
  · exact gl_draw D
  · exact gl_classes D
  · exact gl_parting D
  · exact gl_marks D
  · exact gl_both D
end

section
variable {M : Model} {A : Around} {E : Value → Shared → Prop} {s : Shared} {w : World} {base g : Heap} {mg mb m : Str → Option Value} {env : Env} {V : List (Addr × Obj)} {x : Str} {pos : Pos} {v : Value}

theorem fm_ld {Q : Value → Shared → Prop} (F : Fm base g env.locals m V s.heap) (hv : m x = some v) (h : Q v s)
    (hk : env.scope.kind = .function := by rfl) (hl : env.kindOf x = some .local := by rfl) (hd : (x == ("__debug__" : Str)) = false := by decide) :
    wpAny M A (eval (.Name x pos) env) Q E s := wpAny_Name (wpAny_loadName_local hk hl F.F.ns hv h) hd
theorem fm_ldl {Q : Value → Shared → Prop} (hl : env.kindOf x = some .local) (F : Fm base g env.locals m V s.heap) (hv : m x = some v) (h : Q v s)
    (hk : env.scope.kind = .function := by rfl) (hd : (x == ("__debug__" : Str)) = false := by decide) :
    wpAny M A (eval (.Name x pos) env) Q E s := fm_ld F hv h hk hl hd
theorem fm_cell {c : Addr} {Q : Value → Shared → Prop} (hc : env.cells.lookup x = some c) (hv : s.heap.IsCell c (some v)) (h : Q v s)
    (hk : env.scope.kind = .function := by rfl) (hl : env.kindOf x = some .cell := by rfl) (hd : (x == ("__debug__" : Str)) = false := by decide) :
    wpAny M A (eval (.Name x pos) env) Q E s := wpAny_Name (wpAny_loadName_cell hk hl hc hv h) hd
theorem fm_glob {Q : Value → Shared → Prop} (F : Fm base g env.locals m V s.heap) (D : Md w base mg mb) (hv : mg x = some v) (h : Q v s) (hg : env.globals = mainGlobals := by rfl)
    (hk : env.scope.kind = .function := by rfl) (hx : env.kindOf x = some .globalImplicit := by rfl) (hd : (x == ("__debug__" : Str)) = false := by decide) :
    wpAny M A (eval (.Name x pos) env) Q E s := Name_function_global hk hx (loadGlobal_global (by rw [hg]; exact D.G.keeps F.F.keep) hv h) hd
theorem fm_blt {Q : Value → Shared → Prop} (F : Fm base g env.locals m V s.heap) (D : Md w base mg mb) (hv : mg x = none ∧ mb x = some v) (h : Q v s) (hg : env.globals = mainGlobals := by rfl) (hb : env.builtins = builtinsNs := by rfl)
    (hk : env.scope.kind = .function := by rfl) (hx : env.kindOf x = some .globalImplicit := by rfl) (hd : (x == ("__debug__" : Str)) = false := by decide) :
    wpAny M A (eval (.Name x pos) env) Q E s :=
  Name_function_global hk hx (loadGlobal_builtin (by rw [hg]; exact D.G.keeps F.F.keep) hv.1 (by rw [hb]; exact D.B.keeps F.F.keep) hv.2 h) hd
theorem fm_st {Q : Unit → Shared → Prop} (F : Fm base g env.locals m V s.heap)
    (h : ∀ h', Fm base g env.locals (fun y => if y = x then some v else m y) V h' → Q () { s with heap := h', toks := s.toks + 1 })
    (hk : env.scope.kind = .function := by rfl) (hl : env.kindOf x = some .local := by rfl) : wpAny M A (storeName env x v) Q E s :=
  wpAny_storeName_local hl F.F.ns (fun h' hn hs => h h' (F.set hn hs)) (by rw [hk]; rfl)
/-- a cell in V, stored -/
theorem fm_stC {c : Addr} {o : Obj} {v₀ : Option Value} {V1 V2 : List (Addr × Obj)} {Q : Unit → Shared → Prop} (F : Fm base g env.locals m (V1 ++ (c, o) :: V2) s.heap) (hc : env.cells.lookup x = some c) (ho : o.data = .cell v₀)
    (h : ∀ h' o', o'.data = .cell (some v) → Fm base g env.locals m (V1 ++ (c, o') :: V2) h' → Q () { s with heap := h' })
    (hk : env.scope.kind = .function := by rfl) (hl : env.kindOf x = some .cell := by rfl) : wpAny M A (storeName env x v) Q E s :=
  wpAny_storeName_cell hk hl hc ⟨o, F.vol (c, o) (by simp), ho⟩ fun h' ⟨o', e, d⟩ hs => h h' o' d (F.upd hs.extBut e)
end

/-- how a body's walk ends -/
def End (base g : Heap) (L : Addr) (W : List (Addr × Obj)) (s : Shared) (Post : Heap → Value → Prop) (fl : Flow) (s' : Shared) : Prop :=
  ∃ g' m' h' tk C, s' = { s with heap := h', toks := tk } ∧ Fm base g' L m' (C ++ W) h' ∧ Le g g' ∧ Post g' (match fl with | .ret v => v | _ => .none)

theorem Fm.drops {base g h : Heap} {L : Addr} {m : Str → Option Value} {V : List (Addr × Obj)} : ∀ {C : List (Addr × Obj)}, Fm base g L m (C ++ V) h → Fm base g L m V h
  | [], F => F
  | _ :: C, F => Fm.drops (C := C) (Fm.drop F)

theorem Fm.addOld {base g h : Heap} {L a : Addr} {m : Str → Option Value} {V : List (Addr × Obj)} {o : Obj} (F : Fm base g L m V h) (ho : h.get? a = some o) (hg : g.get? a = none) (hL : L ≠ a) (hV : ∀ p ∈ V, p.1 ≠ a) : Fm base g L m ((a, o) :: V) h where
  F := F.F
  le := F.le
  leb := F.leb
  offL := F.offL
  vol := fun p hp => by rcases List.mem_cons.mp hp with rfl | hp; exact ho; exact F.vol p hp
  off := fun p hp => by rcases List.mem_cons.mp hp with rfl | hp; exact hg; exact F.off p hp
  nd := by
    have nd := F.nd
    rw [List.nodup_cons] at nd ⊢
    rw [List.map_cons, List.nodup_cons, List.mem_cons, not_or]
    exact ⟨⟨hL, nd.1⟩, fun q => let ⟨p, hp, e⟩ := List.mem_map.mp q; hV p hp e, nd.2⟩

theorem Fm.addCells {base g h : Heap} {L : Addr} {m cm : Str → Option Value} {V : List (Addr × Obj)} (F : Fm base g L m V h) :
    ∀ {cs : List (Str × Addr)}, (∀ n c, (n, c) ∈ cs → h.IsCell c (cm n) ∧ g.get? c = none ∧ L ≠ c ∧ ∀ p ∈ V, p.1 ≠ c) → (cs.Pairwise fun x y => x.2 ≠ y.2) → ∃ C, CellsAre cm cs C ∧ Fm base g L m (C ++ V) h ∧ ∀ p ∈ C, ∃ n, (n, p.1) ∈ cs
  | [], _, _ => ⟨[], .nil, F, fun _ h => nomatch h⟩
  | (n, c) :: cs, hx, hp => by
    obtain ⟨h1, h2⟩ := List.pairwise_cons.mp hp
    obtain ⟨C, X, F', i⟩ := Fm.addCells F (cs := cs) (fun n' c' hm => hx n' c' (List.mem_cons_of_mem _ hm)) h2
    obtain ⟨⟨o, ho, hd⟩, hg, hL, hV⟩ := hx n c List.mem_cons_self
    refine ⟨(c, o) :: C, .cons hd X, Fm.addOld F' ho hg hL fun p hp => ?_, fun p hp => ?_⟩
    · rcases List.mem_append.mp hp with q | q
      · obtain ⟨n', q'⟩ := i p q
        exact fun e => h1 _ q' e.symm
      · exact hV p q
    · rcases List.mem_cons.mp hp with rfl | q
      · exact ⟨n, List.mem_cons_self⟩
      · obtain ⟨n', q'⟩ := i p q
        exact ⟨n', List.mem_cons_of_mem _ q'⟩

section
variable {prog : Program} {w : World} {A : Around} {E : Value → Shared → Prop} {s : Shared} {base g : Heap} {L f : Addr} {m : Str → Option Value} {V : List (Addr × Obj)} {Q : Value → Shared → Prop}

theorem End.ret {g g' : Heap} {m' : Str → Option Value} {W : List (Addr × Obj)} {Post : Heap → Value → Prop} {v : Value} {h' : Heap} {tk : Nat} (C : List (Addr × Obj)) (F : Fm base g' L m' (C ++ W) h') (l : Le g g') (p : Post g' v) :
    End base g L W s Post (.ret v) { s with heap := h', toks := tk } := ⟨g', m', h', tk, C, rfl, F, l, p⟩

/-- a call of a plain def of the text, by a contract of its body; the volatile objects may turn -/
theorem code_fnV {fd : FuncData} {body : List Stmt} {oc : Value} {od : Option Addr} {sl : Array (Option Value)} {args : List Value} {binds : List (Str × Value)} {R : Result → Shared → Prop} {Post : Heap → List (Addr × Obj) → Value → Prop}
    (F : Fm base g L m V s.heap) (Rm : Room A 1) (lim : base.NoLimit) (ho : base.get? f = some ⟨oc, od, .func fd, sl⟩) (hb : fd.body = .stmts body) (hcd : base.CodeRec fd.code fd.qualname)
    (hbind : BindsTo s fd ⟨args, []⟩ binds) (hcell : ∀ x ∈ fd.scope.names, x.2 ≠ .cell) (hloc : ∀ x ∈ binds, fd.scope.names.lookup x.1 = some .local)
    (hbody : ∀ L' h₁ p, Fm base g L' (fun y => binds.reverse.lookup y) (p :: V) h₁ →
      wpAny (model prog w) (A.deeper (callEnv fd L' f)) (execs body (callEnv fd L' f))
        (fun fl s' => ∃ g' m' h' tk C V', s' = { s with heap := h', toks := tk } ∧ Fm base g' L' m' (C ++ p :: V') h' ∧ Le g g' ∧ Post g' V' (match fl with | .ret v => v | _ => .none)) (fun _ _ => False) { s with heap := h₁, toks := s.toks + binds.length })
    (k : ∀ g' h' tk V' v, Fm base g' L m V' h' → Le g g' → Post g' V' v → R (.ok (.ret v)) { s with heap := h', toks := tk })
    (hco : fd.scope.isCoroutine = false := by rfl) (hgen : fd.scope.isGenerator = false := by rfl) (hk : fd.scope.kind = .function := by rfl) :
    codeAny (model prog w) A (.call (.ref f) ⟨args, []⟩) R s := by
  refine codeAny_call_def (by have := Rm.depth; omega) (F.F.keep _ _ ho) rfl (lim.keeps F.F.keep) (hcd.keeps F.F.keep) hb hbind hcell hloc (fun h₁ hn hk₁ => ?_) hco hgen hk
  obtain ⟨oL, q, F₁⟩ := F.under hk₁ hn (Nat.le_refl _)
  refine wpAny_mono (hbody _ h₁ _ F₁) (fun fl s' e => ?_) fun _ _ e => e.elim
  obtain ⟨g', m', h', tk, C, V', rfl, F', l, p⟩ := e
  exact k g' h' tk V' _ (F'.drops.back q F.F.above) l p

theorem call_fnV {fd : FuncData} {body : List Stmt} {oc : Value} {od : Option Addr} {sl : Array (Option Value)} {args : List Value} {binds : List (Str × Value)} {Post : Heap → List (Addr × Obj) → Value → Prop}
    (F : Fm base g L m V s.heap) (Rm : Room A 1) (lim : base.NoLimit) (ho : base.get? f = some ⟨oc, od, .func fd, sl⟩) (hb : fd.body = .stmts body) (hcd : base.CodeRec fd.code fd.qualname)
    (hbind : BindsTo s fd ⟨args, []⟩ binds) (hcell : ∀ x ∈ fd.scope.names, x.2 ≠ .cell) (hloc : ∀ x ∈ binds, fd.scope.names.lookup x.1 = some .local)
    (hbody : ∀ L' h₁ p, Fm base g L' (fun y => binds.reverse.lookup y) (p :: V) h₁ →
      wpAny (model prog w) (A.deeper (callEnv fd L' f)) (execs body (callEnv fd L' f))
        (fun fl s' => ∃ g' m' h' tk C V', s' = { s with heap := h', toks := tk } ∧ Fm base g' L' m' (C ++ p :: V') h' ∧ Le g g' ∧ Post g' V' (match fl with | .ret v => v | _ => .none)) (fun _ _ => False) { s with heap := h₁, toks := s.toks + binds.length })
    (k : ∀ g' h' tk V' v, Fm base g' L m V' h' → Le g g' → Post g' V' v → Q v { s with heap := h', toks := tk })
    (hco : fd.scope.isCoroutine = false := by rfl) (hgen : fd.scope.isGenerator = false := by rfl) (hk : fd.scope.kind = .function := by rfl) :
    wpAny (model prog w) A (call (.ref f) args) Q E s :=
  wpAny_call (code_fnV F Rm lim ho hb hcd hbind hcell hloc hbody k hco hgen hk)

/-- a call of a plain def of the text, by a contract of its body -/
theorem call_fn {fd : FuncData} {body : List Stmt} {oc : Value} {od : Option Addr} {sl : Array (Option Value)} {args : List Value} {binds : List (Str × Value)} {Post : Heap → Value → Prop}
    (F : Fm base g L m V s.heap) (R : Room A 1) (lim : base.NoLimit) (ho : base.get? f = some ⟨oc, od, .func fd, sl⟩) (hb : fd.body = .stmts body) (hcd : base.CodeRec fd.code fd.qualname)
    (hbind : BindsTo s fd ⟨args, []⟩ binds) (hcell : ∀ x ∈ fd.scope.names, x.2 ≠ .cell) (hloc : ∀ x ∈ binds, fd.scope.names.lookup x.1 = some .local)
    (hbody : ∀ L' h₁ W, Fm base g L' (fun y => binds.reverse.lookup y) W h₁ →
      wpAny (model prog w) (A.deeper (callEnv fd L' f)) (execs body (callEnv fd L' f)) (End base g L' W s Post) (fun _ _ => False) { s with heap := h₁, toks := s.toks + binds.length })
    (k : ∀ g' h' tk v, Fm base g' L m V h' → Le g g' → Post g' v → Q v { s with heap := h', toks := tk })
    (hco : fd.scope.isCoroutine = false := by rfl) (hgen : fd.scope.isGenerator = false := by rfl) (hk : fd.scope.kind = .function := by rfl) :
    wpAny (model prog w) A (call (.ref f) args) Q E s :=
  call_fnV (Post := fun g' V' v => V' = V ∧ Post g' v) F R lim ho hb hcd hbind hcell hloc (fun L' h₁ p F₁ => wpAny_mono (hbody L' h₁ _ F₁) (fun _ _ e =>
    let ⟨g', m', h', tk, C, e1, e2, e3, e4⟩ := e; ⟨g', m', h', tk, C, V, e1, e2, e3, rfl, e4⟩) fun _ _ e => e)
    (fun g' h' tk V' v F' l p => k g' h' tk v (p.1 ▸ F') l p.2) hco hgen hk

/-- the same with cells: the cells made for the call stand at the head of V -/
theorem call_fnC {fd : FuncData} {body : List Stmt} {oc : Value} {od : Option Addr} {sl : Array (Option Value)} {args : List Value} {binds : List (Str × Value)} {Post : Heap → Value → Prop}
    (F : Fm base g L m V s.heap) (R : Room A 1) (lim : base.NoLimit) (ho : base.get? f = some ⟨oc, od, .func fd, sl⟩) (hb : fd.body = .stmts body) (hcd : base.CodeRec fd.code fd.qualname)
    (hbind : bindArgs fd ⟨args, []⟩ = pure binds) (hclo : fd.closure = [])
    (hkind : ∀ n, ∀ x ∈ binds, fd.scope.names.lookup x.1 = some .local ∨ (fd.scope.names.lookup x.1 = some .cell ∧ ((cellsFrom n fd.scope.names []).lookup x.1).isSome = true))
    (hnd : ((cellsFrom 0 fd.scope.names []).map (·.1)).Nodup)
    (hbody : ∀ L' h₁ W C tk, CellsAre (bindC (callEnvC fd L' f).kindOf binds fun _ => none) (cellsFrom (L' + 1) fd.scope.names []) C → Fm base g L' (bindL (callEnvC fd L' f).kindOf binds fun _ => none) (C ++ W) h₁ →
      wpAny (model prog w) (A.deeper (callEnvC fd L' f)) (execs body (callEnvC fd L' f)) (End base g L' W s Post) (fun _ _ => False) { s with heap := h₁, toks := tk })
    (k : ∀ g' h' tk v, Fm base g' L m V h' → Le g g' → Post g' v → Q v { s with heap := h', toks := tk })
    (hco : fd.scope.isCoroutine = false := by rfl) (hgen : fd.scope.isGenerator = false := by rfl) (hk : fd.scope.kind = .function := by rfl) :
    wpAny (model prog w) A (call (.ref f) args) Q E s := by
  refine wpAny_call (codeAny_call_cells (by have := R.depth; omega) (F.F.keep _ _ ho) rfl (lim.keeps F.F.keep) (hcd.keeps F.F.keep) hb hbind hclo (hkind _) (fun s₁ x => ?_) hco hgen hk)
  obtain ⟨⟨⟨h₁, tk₁, rfl⟩, hn, hk₁, hfr⟩, xc, xa, xl⟩ := x
  obtain ⟨oL, q, F₁⟩ := F.under hk₁ hn (Nat.le_refl _)
  have hnd' : (((cellsFrom (s.heap.objs.size + 1) fd.scope.names [])).map (·.1)).Nodup := by rw [cellsFrom_names fd.scope.names _ 0 [] [] rfl]; exact hnd
  have fr : ∀ c, s.heap.objs.size < c → s.heap.get? c = none := fun c hc => Heap.get?_none_of_le (Nat.le_of_lt hc)
  obtain ⟨C, X, F₂, -⟩ := F₁.addCells (cm := bindC (callEnvC fd s.heap.objs.size f).kindOf binds fun _ => none) (cs := cellsFrom (s.heap.objs.size + 1) fd.scope.names []) (fun n c hm => ⟨xc n c (lookup_of_mem_nodup hnd' hm), (by
      cases e : g.get? c with
      | none => rfl
      | some o => have := F.le _ _ e; rw [fr c (xl n c hm)] at this; cases this), Nat.ne_of_lt (xl n c hm), (by
      intro p hp e
      rcases List.mem_cons.mp hp with rfl | hp
      · exact absurd (Nat.lt_trans F.lt (xl n c hm)) (fun z => by dsimp only at e; rw [e] at z; exact Nat.lt_irrefl _ z)
      · have := F.vol p hp
        rw [e, fr c (xl n c hm)] at this; cases this)⟩) xa
  refine wpAny_mono (hbody _ h₁ _ C tk₁ X F₂) (fun fl s' e => ?_) fun _ _ e => e.elim
  obtain ⟨g', m', h', tk, C, rfl, F', l, p⟩ := e
  exact k g' h' tk _ (F'.drops.back q F.F.above) l p
end
end
section
open PySem PySem.W PyProof.Rows PySem.Calls
set_option maxRecDepth 100000

/-- a ClassDef whose dict of classes lies at a -/
def CD (g : Heap) (x a : Addr) : Prop := ∃ dx hs t n, g.get? x = some (instObj 64 dx) ∧ g.get? dx = some (dictOf [⟨hs, .str "classes" t, .ref a⟩] n)
theorem CD.keeps {g g' : Heap} {x a : Addr} (c : CD g x a) (l : Le g g') : CD g' x a := let ⟨dx, hs, t, n, a1, a2⟩ := c; ⟨dx, hs, t, n, l _ _ a1, l _ _ a2⟩

section
variable {w : World} {A : Around} {E : Value → Shared → Prop} {s : Shared} {base g : Heap} {L f x a : Addr} {m mg mb : Str → Option Value} {V : List (Addr × Obj)}

theorem CD.inst (c : CD g x a) (l : Le g s.heap) : ∃ dx hs t n, InstAt s.heap x (instObj 64 dx) 64 (some (dictOf [⟨hs, .str "classes" t, .ref a⟩] n)) :=
  let ⟨dx, hs, t, n, a1, a2⟩ := c; ⟨dx, hs, t, n, l _ _ a1, rfl, rfl, l _ _ a2⟩

theorem get_classes {expr : Bool} {Q : Value → Shared → Prop} (D : Md w base mg mb) (F : Fm base g L m V s.heap) (c : CD g x a) (h : Q (.ref a) { s with toks := s.toks + 1 }) :
    wpAny (model pg w) A (getAttr (.ref x) "classes" expr) Q E s := by
  obtain ⟨dx, hs, t, n, I⟩ := c.inst F.le
  exact get_own (K := Kf w.params) (attr := none) F.F D.X I rfl rfl rfl rfl rfl rfl h

theorem meth {name : Str} {f : Addr} {pl : Sem Bool} {Q : Value × List Value → Shared → Prop} (D : Md w base mg mb) (F : Fm base g L m V s.heap) (c : CD g x a) (hf : findIn (Kf w.params) (.ref 64) name = some (some (.ref f)))
    (hg : plainGet (Kf w.params) 64 name = true) (ht : isFn (Kf w.params) (.ref f) = true) (hn : ("classes" == name) = false) (h : Q (.ref f, [.ref x]) s) : wpAny (model pg w) A (getMethod (.ref x) name pl) Q E s := by
  obtain ⟨dx, hs, t, n, I⟩ := c.inst F.le
  refine method_inst (K := Kf w.params) F.F D.X I hg hf ht ?_ h
  unfold getL
  simp only [List.find?_cons, Value.isStr, hn, List.find?_nil, List.any_cons, List.any_nil, DictEntry.refKey, Bool.or_false]
  simp
theorem meth_class_of {pl : Sem Bool} {Q : Value × List Value → Shared → Prop} (D : Md w base mg mb) (F : Fm base g L m V s.heap) (c : CD g x a) (h : Q (.ref 42, [.ref x]) s) :
    wpAny (model pg w) A (getMethod (.ref x) "class_of" pl) Q E s := meth D F c rfl rfl rfl (by decide) h
theorem meth_count {pl : Sem Bool} {Q : Value × List Value → Shared → Prop} (D : Md w base mg mb) (F : Fm base g L m V s.heap) (c : CD g x a) (h : Q (.ref 56, [.ref x]) s) :
    wpAny (model pg w) A (getMethod (.ref x) "count" pl) Q E s := meth D F c rfl rfl rfl (by decide) h
theorem meth_told {pl : Sem Bool} {Q : Value × List Value → Shared → Prop} (D : Md w base mg mb) (F : Fm base g L m V s.heap) (c : CD g x a) (h : Q (.ref 61, [.ref x]) s) :
    wpAny (model pg w) A (getMethod (.ref x) "told" pl) Q E s := meth D F c rfl rfl rfl (by decide) h
end
end
section
open PySem PySem.W PyProof.Rows PySem.Calls
set_option maxRecDepth 100000

/-- a dict of ints to ints, in its order -/
abbrev ID (w : World) (h : Heap) (a : Addr) (c : List (Int × Int)) : Prop := IntTab pg w h a (kdfD c)

section
variable {w : World} {A : Around} {E : Value → Shared → Prop} {s : Shared} {base g : Heap} {L f x a : Addr} {m mg mb : Str → Option Value} {V : List (Addr × Obj)}

theorem ID.keeps {h h' : Heap} {c : List (Int × Int)} (i : ID w h a c) (l : Le h h') : ID w h' a c := by
  obtain ⟨lo, kvs, hd, hf⟩ := i
  exact ⟨lo, kvs, hd.keep l, hf⟩

end
end
local macro_rules | `(tactic| walk_at "eval Name") => `(tactic| ((with_reducible show wpAny _ _ (eval (Expr.Name (PySem.Str.ofString _) _) _) _ _ _); with_unfolding_all refine fm_cell (by rfl) (Heap.IsCell.keeps (by assumption) (by walk_at "le")) ?_))
local macro_rules | `(tactic| walk_at "eval Name") => `(tactic| ((with_reducible show wpAny _ _ (eval (Expr.Name (PySem.Str.ofString _) _) _) _ _ _); refine fm_glob (by with_unfolding_all assumption) (by assumption) (gl_tab (by assumption) (by constructor)) ?_ (by with_unfolding_all rfl) (by with_unfolding_all rfl) (by with_unfolding_all rfl) (by with_unfolding_all decide)))
local macro_rules | `(tactic| walk_at "eval Name") => `(tactic| ((with_reducible show wpAny _ _ (eval (Expr.Name (PySem.Str.ofString _) _) _) _ _ _); refine fm_blt (by with_unfolding_all assumption) (by assumption) (bn_tab (by assumption) (by constructor)) ?_ (by with_unfolding_all rfl) (by with_unfolding_all rfl) (by with_unfolding_all rfl) (by with_unfolding_all rfl) (by with_unfolding_all decide)))
local macro_rules | `(tactic| walk_at "eval Name") => `(tactic| ((with_reducible show wpAny _ _ (eval (Expr.Name (PySem.Str.ofString _) _) _) _ _ _); refine fm_ldl (by with_unfolding_all rfl) (by with_unfolding_all assumption) (by with_unfolding_all (first | assumption | rfl)) ?_ (by with_unfolding_all rfl) (by with_unfolding_all decide)))
local macro_rules | `(tactic| walk_at "getAttr ref") => `(tactic| (refine get_classes (by assumption) (by assumption) (CD.keeps (by assumption) (by walk_at "leg")) ?_))
local macro_rules | `(tactic| walk_at "getMethod ref") => `(tactic| ((with_reducible show wpAny _ _ (getMethod (Value.ref _) (PySem.Str.ofString "get") _) _ _ _); refine getMethod_intTab_get (ID.keeps (by assumption) (by walk_at "le")) ?_))
local macro_rules | `(tactic| walk_at "call builtin:dict.get") => `(tactic| (refine kdf_get2 (ID.keeps (by assumption) (by walk_at "le")) ?_; intro _))
local macro_rules | `(tactic| walk_at "assign Name") => `(tactic| (refine wpAny_assign_Name ?_))
local macro_rules | `(tactic| walk_at "storeName") => `(tactic| (refine fm_st (by with_unfolding_all assumption) ?_ (by with_unfolding_all rfl) (by with_unfolding_all rfl); intro _ _))
local macro_rules | `(tactic| walk_at "exec For Name Attribute cons nil") => `(tactic| (refine wpAny_For ?_))
local macro_rules | `(tactic| walk_at "exec For Name Call cons nil") => `(tactic| (refine wpAny_For ?_))
local macro_rules | `(tactic| walk_at "exec For Name BinOp cons nil") => `(tactic| (refine wpAny_For ?_))
local macro_rules | `(tactic| walk_at "exec For Name List cons nil") => `(tactic| (refine wpAny_For ?_))
local macro_rules | `(tactic| walk_at "room") => `(tactic| first | (exact Room.le (by assumption) (by decide)) | (exact Room.le (Room.deeper (by assumption) _) (by decide)) | (exact Room.le (Room.in1 (by assumption)) (by decide)))
local macro_rules | `(tactic| walk_at "call builtin:max") => `(tactic| (refine max_two_ints (Room.handled (n := 0) (by walk_at "room")) ?_; intro _ _ hk9; have hF9 := Fm.grow (by assumption) hk9))
local macro_rules | `(tactic| walk_at "le") => `(tactic| first | assumption | exact Fm.le (by assumption) | exact Le.trans' (by assumption) (Fm.le (by assumption)) | exact Le.trans' (by assumption) (Le.trans' (by assumption) (Fm.le (by assumption))) | exact Le.trans' (by assumption) (Le.trans' (by assumption) (Le.trans' (by assumption) (Fm.le (by assumption)))))
local macro_rules | `(tactic| walk_at "leg") => `(tactic| first | exact Le.rfl' | assumption | exact Le.trans' (by assumption) (by assumption) | exact Le.trans' (by assumption) (Le.trans' (by assumption) (by assumption)) | exact Le.trans' (by assumption) (Le.trans' (by assumption) (Le.trans' (by assumption) (by assumption))))
local macro_rules | `(tactic| walk_at "callWith ref") => `(tactic| ((with_reducible show wpAny _ _ (callWith _ (Value.ref _) _ (backTo _ (starEach (_ :: _) _)) []) _ _ _); refine callWith_K (K := Kf _) (Md.X (by assumption)) (by with_unfolding_all rfl) ?_))
section
open PySem PySem.W PyProof.Rows PySem.Calls
set_option maxRecDepth 100000
section
variable {w : World} {A : Around} {E : Value → Shared → Prop} {s : Shared} {base g : Heap} {L f x a : Addr} {m mg mb : Str → Option Value} {V : List (Addr × Obj)}

theorem class_of_spec {c : List (Int × Int)} {k : Int} {t : Tok} {Q : Value → Shared → Prop} (D : Md w base mg mb) (F : Fm base g L m V s.heap) (R : Room A 2) (hc : CD g x a) (hd : ID w g a c)
    (h : ∀ g' h' tk t', Fm base g' L m V h' → Le g g' → Q (.int (kdfLook c k 0) t') { s with heap := h', toks := tk }) :
    wpAny (model pg w) A (call (.ref 42) [.ref x, .int k t]) Q E s := by
  refine call_fn (Post := fun g' v => ∃ t', v = .int (kdfLook c k 0) t') (binds := [("self", .ref x), ("glyph", .int k t)]) F (R.le (by omega)) D.lim (D.X _ _ rfl) rfl (codeRec_of D.X rfl) (.of_eq rfl) (by decide) (by simp; decide) ?_ ?_
  · intro L' h₁ W F₁
    have R' := R.deeper
    (try dsimp only)
    iterate 14 walk1
    all_goals (dsimp only)
    exact End.ret [] (by assumption) Le.rfl' ⟨_, rfl⟩
  · rintro g' h' tk v F' l ⟨t', rfl⟩
    exact h g' h' tk t' F' l
end
end
section
open PySem PySem.W PyProof.Rows PySem.Calls
set_option maxRecDepth 100000
section
variable {prog : Program} {w : World} {A : Around} {E : Value → Shared → Prop} {s : Shared} {base g : Heap} {m : Str → Option Value} {V : List (Addr × Obj)} {env : Env}
  {I : Addr} {fp : List Addr} {n : Nat} {P : Nat → Value → Prop} {St : Nat → Heap → Prop}

theorem st_keep (W : Walks prog w A I fp [I] n P St) {i : Nat} {g h h' : Heap} {oI : Obj} (st : St i h) (le : Le g h) (le' : Le g h') (e : h.get? I = some oI) (e' : h'.get? I = some oI)
    (hfp : ∀ b ∈ fp, b = I ∨ ∃ o, g.get? b = some o) : St i h' := by
  refine W.frame _ _ _ st fun b hb o q => ?_
  rcases hfp b hb with rfl | ⟨o', z⟩
  · rw [e] at q; cases q; exact e'
  · have := le _ _ z; rw [q] at this; cases this; exact le' _ _ z

/-- the end of a turn -/
def Turn (base g1 : Heap) (L I : Addr) (oI : Obj) (s : Shared) (J : Heap → (Str → Option Value) → List (Addr × Obj) → Prop) (R : Result → Shared → Prop) (f : Flow) (s' : Shared) : Prop :=
  match f with
  | .brk => R (.ok .next) s'
  | .ret v => R (.ok (.ret v)) s'
  | _ => ∃ g2 m2 V2 h2 tk2 C, s' = { s with heap := h2, toks := tk2 } ∧ Fm base g2 L m2 (C ++ (I, oI) :: V2) h2 ∧ Le g1 g2 ∧ J g2 m2 V2

theorem Turn.next {g1 g2 h2 : Heap} {L : Addr} {oI : Obj} {J : Heap → (Str → Option Value) → List (Addr × Obj) → Prop} {R : Result → Shared → Prop} {m2 : Str → Option Value} {V2 : List (Addr × Obj)} {tk2 : Nat} (C : List (Addr × Obj))
    (F : Fm base g2 L m2 (C ++ (I, oI) :: V2) h2) (l : Le g1 g2) (j : J g2 m2 V2) : Turn base g1 L I oI s J R .next { s with heap := h2, toks := tk2 } := ⟨g2, m2, V2, h2, tk2, C, rfl, F, l, j⟩

theorem loop_walks {target : Expr} {body : List Stmt} {R : Result → Shared → Prop} {oI : Obj} (W : Walks prog w A I fp [I] n P St) (hIo : ∀ i h, St i h → ∃ o, h.get? I = some o) (hst : St 0 s.heap)
    (F : Fm base g env.locals m ((I, oI) :: V) s.heap) (hfp : ∀ b ∈ fp, b = I ∨ ∃ o, g.get? b = some o)
    (hown : ∀ i v (s₁ : Shared) (Q : Unit → Shared → Prop) (E : Value → Shared → Prop), St i s₁.heap → Q () s₁ → wpAny (model prog w) A (letOwnedTupleGo target (.ref I) v) Q E s₁)
    (J : Nat → Heap → (Str → Option Value) → List (Addr × Obj) → Prop) (h0 : J 0 g m V)
    (turn : ∀ i v g1 m1 V1 oI h tk, i < n → P i v → Le g g1 → J i g1 m1 V1 → Fm base g1 env.locals m1 ((I, oI) :: V1) h →
      wpAny (model prog w) A (assign target env v) (fun _ s₂ => wpAny (model prog w) A (execs body env) (Turn base g1 env.locals I oI s (J (i + 1)) R) (fun _ _ => False) s₂) (fun _ _ => False) { s with heap := h, toks := tk })
    (done : ∀ g1 m1 V1 h tk, Le g g1 → J n g1 m1 V1 → Fm base g1 env.locals m1 V1 h → R (.ok .next) { s with heap := h, toks := tk }) :
    codeAny (model prog w) A (.forLoop target (.ref I) body [] env) R s := by
  refine codeAny_forLoop_any
    (fun k s' => ∃ h tk i g1 m1 V1 oI, s' = { s with heap := h, toks := tk } ∧ St i h ∧ Le g g1 ∧ Fm base g1 env.locals m1 ((I, oI) :: V1) h ∧ J i g1 m1 V1 ∧ i ≤ n ∧ k = n + 1 - i) ?_ (n + 1)
    ⟨s.heap, s.toks, 0, g, m, V, oI, rfl, hst, Le.rfl', F, h0, Nat.zero_le _, rfl⟩
  rintro k s' ⟨h, tk, i, g1, m1, V1, oI, rfl, st, le, F, hJ, hi, rfl⟩
  have fp' : ∀ b ∈ fp, b = I ∨ ∃ o, g1.get? b = some o := fun b hb => (hfp b hb).imp id fun ⟨o, e⟩ => ⟨o, le _ _ e⟩
  by_cases hlt : i < n
  · refine W.item i _ _ _ hlt st fun v h₁ tk₁ hP st₁ hk₁ => ?_
    obtain ⟨oI', e'⟩ := hIo _ _ st₁
    have F₁ : Fm base g1 env.locals m1 ((I, oI') :: V1) h₁ := Fm.upd (V1 := []) F (fun b o hb e => hk₁ b o (by simpa using hb) e) e'
    dsimp only
    refine hown _ _ _ _ _ st₁ ?_
    refine wpAny_mono (turn i v g1 m1 V1 oI' h₁ tk₁ hlt hP le hJ F₁) (fun _ s₂ h₂ => wpAny_mono h₂ (fun f s₃ h₃ => ?_) fun _ _ e => e.elim) fun _ _ e => e.elim
    have fin : (∃ g2 m2 V2 h2 tk2 C, s₃ = { s with heap := h2, toks := tk2 } ∧ Fm base g2 env.locals m2 (C ++ (I, oI') :: V2) h2 ∧ Le g1 g2 ∧ J (i + 1) g2 m2 V2) →
        ∃ k, k < n + 1 - i ∧ ∃ h tk j g1 m1 V1 oI, s₃ = { s with heap := h, toks := tk } ∧ St j h ∧ Le g g1 ∧ Fm base g1 env.locals m1 ((I, oI) :: V1) h ∧ J j g1 m1 V1 ∧ j ≤ n ∧ k = n + 1 - j := by
      rintro ⟨g2, m2, V2, h2, tk2, C, rfl, F₂, l2, hJ₂⟩
      have F₂ := F₂.drops
      refine ⟨n + 1 - (i + 1), by omega, h2, tk2, i + 1, g2, m2, V2, oI', rfl, ?_, Le.trans' le l2, F₂, hJ₂, hlt, rfl⟩
      exact st_keep W st₁ F₁.le (Le.trans' l2 F₂.le) e' (F₂.vol (I, oI') (.head _)) fp'
    cases f with
    | ret v => exact h₃
    | brk => exact h₃
    | next => exact fin h₃
    | cont => exact fin h₃
  · obtain rfl : i = n := by omega
    refine W.done _ _ _ st fun h₁ tk₁ hk₁ => ?_
    refine wpAny_execs_nil ?_
    have D := F.drop
    have off := F.off (I, oI) (.head _)
    have nd := F.nd
    rw [List.map_cons, List.nodup_cons, List.nodup_cons, List.mem_cons, not_or] at nd
    refine done g1 m1 V1 h₁ tk₁ le hJ ?_
    have up : Le g1 h₁ := fun b o e => hk₁ b o (by simp; rintro rfl; rw [off] at e; cases e) (F.le _ _ e)
    exact { F := ⟨F.F.ns.at' fun o e => hk₁ _ o (by simpa using nd.1.1) e, Le.trans' F.leb up, F.F.above⟩, le := up, leb := F.leb, offL := F.offL,
            vol := fun p hp => hk₁ _ _ (by simp; exact fun e => nd.2.1 (List.mem_map.mpr ⟨p, hp, e⟩)) (F.vol p (.tail _ hp)), off := D.off, nd := D.nd }

open PyProof.Rows.LCg in
/-- the end of a comprehension's element -/
def CEnd (base g1 : Heap) (C : Addr) (K : List (Addr × Obj)) (s : Shared) (J : Heap → List (Addr × Obj) → Prop) (s' : Shared) : Prop :=
  ∃ g2 V2 h2 tk2 m3, s' = { s with heap := h2, toks := tk2 } ∧ Fm base g2 C m3 (K ++ V2) h2 ∧ Le g1 g2 ∧ J g2 V2

open PyProof.Rows.LCg in
theorem comp_block {elt iter : Expr} {x : Str} {px : Pos} {ifs : List Expr} {scope : Scope} {cl : List (Str × Addr)} {pos : Pos} {s₂ : Shared} {oI : Obj} {RR : Value → Addr → Result → Shared → Prop}
    (W : Walks prog w A I fp [I] n P St) (hsz : n ≤ sizeLine) (hIo : ∀ i h, St i h → ∃ o, h.get? I = some o) (hst : St 0 s₂.heap)
    (F : Fm base g env.locals m ((I, oI) :: V) s₂.heap) (hfp : ∀ b ∈ fp, b = I ∨ ∃ o, g.get? b = some o)
    (hcell : ∀ y ∈ scope.names, y.2 ≠ .cell) (hkind : scope.kind = .function) (hx : scope.names.lookup x = some .local)
    (J : Nat → Heap → List Value → List (Addr × Obj) → Prop) (h0 : J 0 g [] V)
    (turn : ∀ i v g1 ys V1 oI C D oL h tk m₂, i < n → P i v → Le g g1 → J i g1 ys V1 → NsObj oL m → m₂ x = some v → ys.length ≤ i →
      Fm base g1 C m₂ ((env.locals, oL) :: (I, oI) :: (D, lst ys) :: V1) h →
      wpAny (model prog w) A (forIn ifs true fun c r => if r = true then do let ok ← isTrue c (compEnvC scope cl C env) (eval c (compEnvC scope cl C env)); pure (ForInStep.yield ok) else pure (ForInStep.yield r))
        (fun ok s₃ => if ok = true then wpAny (model prog w) A (eval elt (compEnvC scope cl C env)) (fun y => CEnd base g1 C [(env.locals, oL), (I, oI), (D, lst ys)] s₂ (fun g2 V2 => J (i + 1) g2 (ys ++ [y]) V2)) (fun _ _ => False) s₃
          else CEnd base g1 C [(env.locals, oL), (I, oI), (D, lst ys)] s₂ (fun g2 V2 => J (i + 1) g2 ys V2) s₃) (fun _ _ => False) { s₂ with heap := h, toks := tk })
    (done : ∀ g1 ys V1 C D oL h tk m₂, Le g g1 → J n g1 ys V1 → NsObj oL m → Fm base g1 C m₂ ((env.locals, oL) :: (D, lst ys) :: V1) h → RR (.ref D) C (.ok .next) { s₂ with heap := h, toks := tk }) :
    wpAny (model prog w) A (newList []) (fun acc s₃ => wpAny (model prog w) A (newFunctionEnv scope env.globals cl [] env.qual none .none (some env)) (fun cenv s₄ =>
      codeAny (model prog w) A (.compStart (.ListComp elt [⟨.Name x px, iter, ifs, 0⟩] scope pos) 0 (.ref I) acc { cenv with scope := relabel scope env }) (RR acc cenv.locals) s₄) E s₃) E s₂ := by
  refine wpAny_newObj_type (wpAny_newFunctionEnv hcell (by intro y hy; simp at hy) (fun h₁ hns₁ hsb₁ => ?_) hkind)
  dsimp only at hns₁ hsb₁ ⊢
  have FD := F.allocV (lst []) rfl
  have eD : s₂.heap.push { cls := .type "list", dict := none, data := .seq ([] : List Value).toArray } = s₂.heap.push (lst []) := rfl
  rw [eD] at hns₁ hsb₁ ⊢
  generalize s₂.heap.objs.size = Dd at FD ⊢
  generalize hH : s₂.heap.push (lst []) = H2 at FD hns₁ hsb₁ ⊢
  have old : Le H2 h₁ := fun b o e => hsb₁.extBut b o (Nat.ne_of_lt (Heap.lt_size e)) (Heap.get?_push_of_some _ e)
  obtain ⟨oL, q, FC⟩ := FD.under old hns₁ (Nat.le_refl _)
  have up : Le s₂.heap h₁ := fun b o e => old _ _ (hH ▸ Heap.get?_push_of_some _ e)
  have st₁ : St 0 h₁ := st_keep W hst F.le (Le.trans' F.le up) (F.vol (I, oI) (.head _)) (up _ _ (F.vol (I, oI) (.head _))) hfp
  have F₀ : Fm base g H2.objs.size (fun x => ([] : List (Str × Value)).reverse.lookup x) ((env.locals, oL) :: (I, oI) :: (Dd, lst []) :: V) h₁ := FC.perm (by
    refine List.Perm.cons _ ?_
    exact List.Perm.swap _ _ _)
  have loop : ∀ s₃ : Shared, s₃ = { s₂ with heap := h₁, toks := s₂.toks + ([] : List (Str × Value)).length } →
      codeAny (model prog w) A (.compLoop (.ListComp elt [⟨.Name x px, iter, ifs, 0⟩] scope pos) 0 (.ref I) (.ref Dd) (compEnvC scope cl H2.objs.size env)) (RR (.ref Dd) H2.objs.size) s₃ := by
    rintro s₃ rfl
    refine codeAny_compLoop_tests
      (fun k s' => ∃ h tk i g1 ys m₂ V1 oI, s' = { s₂ with heap := h, toks := tk } ∧ St i h ∧ Le g g1 ∧ Fm base g1 H2.objs.size m₂ ((env.locals, oL) :: (I, oI) :: (Dd, lst ys) :: V1) h ∧ J i g1 ys V1 ∧ i ≤ n ∧ k = n + 1 - i ∧ ys.length ≤ i) ?_ (n + 1)
      ⟨h₁, _, 0, g, [], _, V, oI, rfl, st₁, Le.rfl', F₀, h0, Nat.zero_le _, rfl, Nat.zero_le _⟩
    rintro k s' ⟨h, tk, i, g1, ys, m₂, V1, oI, rfl, st, le, F, hJ, hi, rfl, hys⟩
    have fp' : ∀ b ∈ fp, b = I ∨ ∃ o, g1.get? b = some o := fun b hb => (hfp b hb).imp id fun ⟨o, e⟩ => ⟨o, le _ _ e⟩
    by_cases hlt : i < n
    · refine W.item i _ _ _ hlt st fun v h₁ tk₁ hP st₁ hk₁ => ?_
      obtain ⟨oI', e'⟩ := hIo _ _ st₁
      have F₁ : Fm base g1 H2.objs.size m₂ ((env.locals, oL) :: (I, oI') :: (Dd, lst ys) :: V1) h₁ := Fm.upd (V1 := [(env.locals, oL)]) F (fun b o hb e => hk₁ b o (by simpa using hb) e) e'
      refine wpAny_assign_Name (wpAny_storeName_local (lookup_relabel_local hx) F₁.F.ns (fun h₂ hn₂ hs₂ => ?_) (by simp [compEnvC, relabel, hkind]))
      have F₂ := F₁.set hn₂ hs₂
      have st₂ := st_keep W st₁ F₁.le F₂.le e' (F₂.vol (I, oI') (by simp)) fp'
      refine wpAny_mono (turn i v g1 ys V1 oI' _ Dd oL h₂ _ _ hlt hP le hJ q (by simp) hys F₂) (fun ok s₃ h₃ => ?_) fun _ _ e => e.elim
      cases ok with
      | false =>
        simp only [Bool.false_eq_true, if_false] at h₃ ⊢
        obtain ⟨g2, V2, h2, tk2, m3, rfl, F₃, l2, hJ₂⟩ := h₃
        refine ⟨n + 1 - (i + 1), by omega, h2, tk2, i + 1, g2, ys, m3, V2, oI', rfl, ?_, Le.trans' le l2, F₃, hJ₂, hlt, rfl, by omega⟩
        exact st_keep W st₂ F₂.le (Le.trans' l2 F₃.le) (F₂.vol (I, oI') (by simp)) (F₃.vol (I, oI') (by simp)) fp'
      | true =>
        simp only [if_true] at h₃ ⊢
        refine wpAny_mono h₃ (fun y s₄ h₄ => ?_) fun _ _ e => e.elim
        obtain ⟨g2, V2, h2, tk2, m3, rfl, F₃, l2, hJ₂⟩ := h₄
        have st₃ := st_keep W st₂ F₂.le (Le.trans' l2 F₃.le) (F₂.vol (I, oI') (by simp)) (F₃.vol (I, oI') (by simp)) fp'
        refine append_at (hsz := by show ys.toArray.size ≤ sizeLine; rw [List.size_toArray]; omega) (F₃.vol (Dd, lst ys) (by simp)) fun h₅ hs₅ hD₅ => ?_
        have F₅ : Fm base g2 H2.objs.size m3 ((env.locals, oL) :: (I, oI') :: (Dd, lst (ys ++ [y])) :: V2) h₅ :=
          Fm.upd (V1 := [(env.locals, oL), (I, oI')]) F₃ hs₅.extBut (hD₅.trans (congrArg some (lst_snoc ys y)))
        have fp2 : ∀ b ∈ fp, b = I ∨ ∃ o, g2.get? b = some o := fun b hb => (fp' b hb).imp id fun ⟨o, e⟩ => ⟨o, l2 _ _ e⟩
        refine ⟨n + 1 - (i + 1), by omega, h₅, tk2, i + 1, g2, ys ++ [y], m3, V2, oI', rfl, ?_, Le.trans' le l2, F₅, hJ₂, hlt, rfl, by simp; omega⟩
        exact st_keep W st₃ F₃.le F₅.le (F₃.vol (I, oI') (by simp)) (F₅.vol (I, oI') (by simp)) fp2
    · obtain rfl : i = n := by omega
      refine W.done _ _ _ st fun h₁ tk₁ hk₁ => ?_
      have FI : Fm base g1 H2.objs.size m₂ ((I, oI) :: (env.locals, oL) :: (Dd, lst ys) :: V1) h := F.perm (List.Perm.swap _ _ _)
      have D := FI.drop
      have off := FI.off (I, oI) (.head _)
      have nd := FI.nd
      rw [List.map_cons, List.nodup_cons, List.nodup_cons, List.mem_cons, not_or] at nd
      refine done g1 ys V1 _ Dd oL h₁ tk₁ m₂ le hJ q ?_
      have up : Le g1 h₁ := fun b o e => hk₁ b o (by simp; rintro rfl; rw [off] at e; cases e) (FI.le _ _ e)
      exact { F := ⟨FI.F.ns.at' fun o e => hk₁ _ o (by simpa using nd.1.1) e, Le.trans' FI.leb up, FI.F.above⟩, le := up, leb := FI.leb, offL := FI.offL,
              vol := fun p hp => hk₁ _ _ (by rw [List.mem_singleton]; exact fun e => nd.2.1 (List.mem_map.mpr ⟨p, hp, e⟩)) (FI.vol p (.tail _ hp)), off := D.off, nd := D.nd }
  exact codeAny_compStart_list (loop _ rfl) (W.self 0 _ _ _ st₁ (loop _ rfl))
end
end
section
open PySem PySem.W PyProof.Rows PySem.Calls
set_option maxRecDepth 100000

/-- what a for or a comprehension may walk, frozen at g -/
structure Src (prog : Program) (w : World) (A : Around) (g : Heap) (xv : Value) (n : Nat) (P : Nat → Value → Prop) : Prop where
  it : ∀ {base : Heap} {L : Addr} {m : Str → Option Value} {V : List (Addr × Obj)} {s : Shared} {Q : Value → Shared → Prop} {E : Value → Shared → Prop}, Fm base g L m V s.heap →
    (∀ I oI fp St h', Walks prog w A I fp [I] n P St → (∀ i h, St i h → ∃ o, h.get? I = some o) → St 0 h' → Fm base g L m ((I, oI) :: V) h' → (∀ b ∈ fp, b = I ∨ ∃ o, g.get? b = some o) →
      (∀ target i v (s₁ : Shared) (Q : Unit → Shared → Prop) (E : Value → Shared → Prop), St i s₁.heap → Q () s₁ → wpAny (model prog w) A (letOwnedTupleGo target (.ref I) v) Q E s₁) →
      Q (.ref I) { s with heap := h' }) → wpAny (model prog w) A (pyIter xv) Q E s

section
variable {prog : Program} {w : World} {A : Around} {E : Value → Shared → Prop} {s : Shared} {base g : Heap} {L : Addr} {m : Str → Option Value} {V : List (Addr × Obj)} {env : Env}

theorem own_go {target : Expr} {I : Addr} {v : Value} {T : String} {fs : Array Value} {o : Obj} {Q : Unit → Shared → Prop} (ho : s.heap.get? I = some o) (hc : o.cls = .type T) (hd : o.data = .fields fs)
    (hT : (["enumerate", "zip", "dict_itemiterator", "dict_reverseitemiterator", "odict_iterator", "itertools.zip_longest", "itertools.pairwise"] : List String).contains T = false) (h : Q () s) :
    wpAny (model prog w) A (letOwnedTupleGo target (.ref I) v) Q E s := by
  have main : wpAny (model prog w) A (do
      let (.ref r, .ref a) := ((Value.ref I, v) : Value × Value) | return
      let o ← load r
      match o.cls, o.data with
      | .type n, .fields vs =>
        if ["enumerate", "zip", "dict_itemiterator", "dict_reverseitemiterator", "odict_iterator", "itertools.zip_longest", "itertools.pairwise"].contains n && vs[0]? == some (rawInt a) then
          rule "for.unpacks-the-owned-tuple"
          updateField r 0 .none
      | _, _ => pure ()) Q E s := by
    cases v <;> try exact wpAny_pure h
    refine wpAny_bind (wpAny_load ho ?_)
    rw [hc, hd]
    dsimp only
    rw [hT]
    exact wpAny_pure h
  unfold letOwnedTupleGo
  split
  · exact main
  · exact main
  · exact wpAny_pure h

theorem Src.list {ax : Addr} {its : Array Value} (hh : A.handled = none) (hl : g.IsList ax its) : Src prog w A g (.ref ax) its.size (fun i v => its[i]? = some v) where
  it := fun {base L m V s Q E} F k => by
    have hl' : s.heap.IsList ax its := let ⟨o, e, r⟩ := hl; ⟨o, F.le _ _ e, r⟩
    have hne : ax ≠ s.heap.objs.size := by obtain ⟨o, e, _⟩ := hl'; exact Nat.ne_of_lt (Heap.lt_size e)
    refine wpAny_pyIter_list hl' (k _ _ _ _ _ (Walks.list hh s.heap.objs.size ax hne its) (fun i h st => let ⟨⟨o, e, _⟩, _⟩ := st; ⟨o, e⟩)
      ⟨⟨_, Heap.get?_push_size _ rfl, rfl, rfl⟩, hl'.push _⟩ (F.allocV _ rfl) (fun b hb => ?_) (fun target i v s₁ Q E st h => ?_))
    · rcases List.mem_cons.mp hb with rfl | hb
      · exact .inl rfl
      · rw [List.mem_singleton.mp hb]; obtain ⟨o, e, _⟩ := hl; exact .inr ⟨o, e⟩
    · obtain ⟨⟨o, ho, hc, hd⟩, _⟩ := st
      exact own_go ho hc hd (by decide) h

theorem Src.range {r : Addr} {a b : Int} {t u v : Tok} {n : Nat} (hh : A.handled = none) (hr : IsRange g r a b 1 t u v) (hsm : Builtin.Range.small a b 1 = true) (hn : Builtin.Range.rangeSize a b 1 = (n : Int)) :
    Src prog w A g (.ref r) n (fun i v => ∃ t, v = .int (a + (i : Int)) t) where
  it := fun {base L m V s Q E} F k => by
    have hr' : IsRange s.heap r a b 1 t u v := F.le _ _ hr
    refine wpAny_pyIter_range hr' hsm (k _ _ _ _ _ (LCg.range_walks hh a n) (fun i h st => ⟨_, st⟩) ?_ (F.allocV _ rfl) (fun b hb => .inl (List.mem_singleton.mp hb)) (fun target i v s₁ Q E st h => ?_))
    · rw [hn]
      simpa [IsRangeIter] using Heap.get?_push_size s.heap rfl
    · exact own_go st rfl rfl (by decide) h

theorem Src.keys {K : Type} [DecidableEq K] {knd : KeyKind prog w K} {d : Addr} {kvs : List (K × Value)} (hh : A.handled = none) (hs : (d == sysModules) = false) (hd : g.DictOf knd d kvs) :
    Src prog w A g (.ref d) kvs.length (fun i v => ∃ k x, kvs[i]? = some (k, x) ∧ knd.is k v = true) where
  it := fun {base L m V s Q E} F k => by
    obtain ⟨o, es, ep, ho, r⟩ := hd
    have ha : s.heap.DictAt knd d kvs ep := ⟨o, es, F.le _ _ ho, r⟩
    have hne : d ≠ s.heap.objs.size := Nat.ne_of_lt (Heap.lt_size (F.le _ _ ho))
    refine wpAny_pyIter_dict hs ha (k _ _ _ _ _ (Walks.dictKeys hh s.heap.objs.size d hne kvs ep) (fun i h st => let ⟨⟨o, e, _⟩, _⟩ := st; ⟨o, e⟩)
      ⟨⟨_, Heap.get?_push_size _ rfl, rfl, rfl⟩, ⟨o, es, Heap.get?_push_of_some _ (F.le _ _ ho), r⟩⟩ (F.allocV _ rfl) (fun b hb => ?_) (fun target i v s₁ Q E st h => ?_))
    · rcases List.mem_cons.mp hb with rfl | hb
      · exact .inl rfl
      · rw [List.mem_singleton.mp hb]; exact .inr ⟨o, ho⟩
    · obtain ⟨⟨o, ho, hc, hd⟩, _⟩ := st
      exact own_go ho hc hd (by decide) h

variable {n : Nat} {P : Nat → Value → Prop} {xv : Value}

theorem pyIter_loop {target : Expr} {body : List Stmt} {R : Result → Shared → Prop} (S : Src prog w A g xv n P) (F : Fm base g env.locals m V s.heap)
    (J : Nat → Heap → (Str → Option Value) → List (Addr × Obj) → Prop) (h0 : J 0 g m V)
    (turn : ∀ i v g1 m1 V1 I oI h tk, i < n → P i v → Le g g1 → J i g1 m1 V1 → Fm base g1 env.locals m1 ((I, oI) :: V1) h →
      wpAny (model prog w) A (assign target env v) (fun _ s₂ => wpAny (model prog w) A (execs body env) (Turn base g1 env.locals I oI s (J (i + 1)) R) (fun _ _ => False) s₂) (fun _ _ => False) { s with heap := h, toks := tk })
    (done : ∀ g1 m1 V1 h tk, Le g g1 → J n g1 m1 V1 → Fm base g1 env.locals m1 V1 h → R (.ok .next) { s with heap := h, toks := tk }) :
    wpAny (model prog w) A (pyIter xv) (fun it s₂ => codeAny (model prog w) A (.forLoop target it body [] env) R s₂) E s :=
  S.it F fun I oI fp St h' W hIo hst F' hfp hown => loop_walks W hIo hst F' hfp (hown target) J h0 (fun i v g1 m1 V1 oI h tk a b c d e => turn i v g1 m1 V1 I oI h tk a b c d e) done

open PyProof.Rows.LCg in
theorem pyIter_comp {elt iter : Expr} {x : Str} {px : Pos} {ifs : List Expr} {scope : Scope} {cl : List (Str × Addr)} {pos : Pos} {RR : Value → Addr → Result → Shared → Prop}
    (S : Src prog w A g xv n P) (F : Fm base g env.locals m V s.heap) (hsz : n ≤ sizeLine)
    (J : Nat → Heap → List Value → List (Addr × Obj) → Prop) (h0 : J 0 g [] V)
    (turn : ∀ i v g1 ys V1 I oI C D oL h tk m₂, i < n → P i v → Le g g1 → J i g1 ys V1 → NsObj oL m → m₂ x = some v → ys.length ≤ i →
      Fm base g1 C m₂ ((env.locals, oL) :: (I, oI) :: (D, lst ys) :: V1) h →
      wpAny (model prog w) A (forIn ifs true fun c r => if r = true then do let ok ← isTrue c (compEnvC scope cl C env) (eval c (compEnvC scope cl C env)); pure (ForInStep.yield ok) else pure (ForInStep.yield r))
        (fun ok s₃ => if ok = true then wpAny (model prog w) A (eval elt (compEnvC scope cl C env)) (fun y => CEnd base g1 C [(env.locals, oL), (I, oI), (D, lst ys)] s (fun g2 V2 => J (i + 1) g2 (ys ++ [y]) V2)) (fun _ _ => False) s₃
          else CEnd base g1 C [(env.locals, oL), (I, oI), (D, lst ys)] s (fun g2 V2 => J (i + 1) g2 ys V2) s₃) (fun _ _ => False) { s with heap := h, toks := tk })
    (done : ∀ g1 ys V1 C D oL h tk m₂, Le g g1 → J n g1 ys V1 → NsObj oL m → Fm base g1 C m₂ ((env.locals, oL) :: (D, lst ys) :: V1) h → RR (.ref D) C (.ok .next) { s with heap := h, toks := tk })
    (hcell : ∀ y ∈ scope.names, y.2 ≠ .cell := by decide) (hkind : scope.kind = .function := by rfl) (hx : scope.names.lookup x = some .local := by rfl) :
    wpAny (model prog w) A (pyIter xv) (fun it s₂ => wpAny (model prog w) A (newList []) (fun acc s₃ => wpAny (model prog w) A (newFunctionEnv scope env.globals cl [] env.qual none .none (some env)) (fun cenv s₄ =>
      codeAny (model prog w) A (.compStart (.ListComp elt [⟨.Name x px, iter, ifs, 0⟩] scope pos) 0 it acc { cenv with scope := relabel scope env }) (RR acc cenv.locals) s₄) E s₃) E s₂) E s :=
  S.it F fun I oI fp St h' W hIo hst F' hfp hown => comp_block W hsz hIo hst F' hfp hcell hkind hx J h0 (fun i v g1 ys V1 oI C D oL h tk m₂ a b c d e f z G => turn i v g1 ys V1 I oI C D oL h tk m₂ a b c d e f z G) done

/-- `[elt for x in iter ..]` as an expression: up to its source -/
theorem ListComp_ {elt iter : Expr} {x : Str} {px : Pos} {ifs : List Expr} {scope : Scope} {cl : List (Str × Addr)} {pos : Pos} {Q : Value → Shared → Prop}
    (h : wpAny (model prog w) A (eval iter env) (fun xv s₁ => wpAny (model prog w) A (pyIter xv) (fun it s₂ => wpAny (model prog w) A (newList []) (fun acc s₃ =>
      wpAny (model prog w) A (newFunctionEnv scope env.globals cl [] env.qual none .none (some env)) (fun cenv s₄ =>
        codeAny (model prog w) A (.compStart (.ListComp elt [⟨.Name x px, iter, ifs, 0⟩] scope pos) 0 it acc { cenv with scope := relabel scope env }) (compPost (model prog w) A E none Q acc cenv.locals) s₄) E s₃) E s₂) E s₁) E s)
    (hclos : closureFor scope env = pure cl := by rfl) (hkind : scope.kind = .function := by rfl) (hnames : ∀ y ∈ scope.names, y.2 = .local → scope.names.lookup y.1 = some .local := by decide) (hs : ∀ x, foldedSetIterable iter env x = pure x := by intro _; rfl) :
    wpAny (model prog w) A (eval (.ListComp elt [⟨.Name x px, iter, ifs, 0⟩] scope pos) env) Q E s := by
  rw [eval_ListComp]
  exact wpAny_comprehension_free (use := none) rfl hs hclos hkind hnames h

open PyProof.Rows.LCg in
/-- the end of a comprehension that is an expression -/
theorem comp_done {g1 : Heap} {ys : List Value} {V1 : List (Addr × Obj)} {C D : Addr} {oL : Obj} {h : Heap} {tk : Nat} {m₂ : Str → Option Value} {Q : Value → Shared → Prop} (F0 : Fm base g L m V s.heap) (q : NsObj oL m)
    (F : Fm base g1 C m₂ ((L, oL) :: (D, lst ys) :: V1) h)
    (k : ∀ g2 h' , Le g1 g2 → Fm base g2 L m V1 h' → g2.IsList D ys.toArray → Q (.ref D) { s with heap := h', toks := tk }) :
    compPost (model prog w) A E none Q (.ref D) C (.ok .next) { s with heap := h, toks := tk } := by
  refine ⟨m₂, F.F.ns, fun h' hs => ?_⟩
  have nC := F.volL
  have F' : Fm base g1 C m₂ ((L, oL) :: (D, lst ys) :: V1) h := F
  have B := F.back q F0.F.above
  have B' : Fm base g1 L m ((D, lst ys) :: V1) h' :=
    { F := ⟨B.F.ns.sameBut hs (nC (L, oL) (.head _)), fun b o e => hs.extBut b o (by rintro rfl; have := F.leb _ _ e; rw [F.offL] at this; cases this) (B.F.keep _ _ e), B.F.above⟩
      le := fun b o e => hs.extBut b o (by rintro rfl; rw [F.offL] at e; cases e) (B.le _ _ e)
      leb := B.leb, offL := B.offL, vol := fun p hp => hs.extBut _ _ (nC p (.tail _ hp)) (B.vol p hp), off := B.off, nd := B.nd }
  obtain ⟨g2, F2, l2, e2⟩ := B'.freezeV
  exact k g2 h' l2 F2 ⟨_, e2, rfl, _, rfl⟩

/-- `y = [elt for ..]` for a local y on one line -/
theorem Assign_ListComp_ {elt iter : Expr} {x y : Str} {px py : Pos} {ifs : List Expr} {scope : Scope} {cl : List (Str × Addr)} {pos spos : Pos} {Q : Flow → Shared → Prop}
    (h : wpAny (model prog w) A (eval iter env) (fun xv s₁ => wpAny (model prog w) A (pyIter xv) (fun it s₂ => wpAny (model prog w) A (newList []) (fun acc s₃ =>
      wpAny (model prog w) A (newFunctionEnv scope env.globals cl [] env.qual none .none (some env)) (fun cenv s₄ =>
        codeAny (model prog w) A (.compStart (.ListComp elt [⟨.Name x px, iter, ifs, 0⟩] scope pos) 0 it acc { cenv with scope := relabel scope env }) (compPost (model prog w) A E (some (assign (.Name y py) env)) (fun _ s' => Q .next s') acc cenv.locals) s₄) E s₃) E s₂) E s₁) E s)
    (hsw : swapsWith (.ListComp elt [⟨.Name x px, iter, ifs, 0⟩] scope pos) (some (.Name y py)) spos.line env = pure true := by rfl)
    (hclos : closureFor scope env = pure cl := by rfl) (hkind : scope.kind = .function := by rfl) (hnames : ∀ y ∈ scope.names, y.2 = .local → scope.names.lookup y.1 = some .local := by decide) (hs : ∀ x, foldedSetIterable iter env x = pure x := by intro _; rfl) :
    wpAny (model prog w) A (exec (.Assign [.Name y py] (.ListComp elt [⟨.Name x px, iter, ifs, 0⟩] scope pos) spos) env) Q E s := by
  rw [exec_Assign_Name_used _ _ _ _ hsw]
  refine wpAny_bind (wpAny_standAt (wpAny_bind ?_))
  show wpAny _ A (do let _ ← comprehension (.ListComp elt [⟨.Name x px, iter, ifs, 0⟩] scope pos) scope env _ (newList []) false (eval iter env) (some (assign (.Name y py) env))) _ _ s
  exact wpAny_bind (wpAny_mono (wpAny_comprehension_free (use := some (assign (.Name y py) env)) (Q := fun _ s' => Q .next s') rfl hs hclos hkind hnames h) (fun _ s' hq => wpAny_pure (wpAny_pure hq)) fun _ _ e => e)

open PyProof.Rows.LCg in
theorem comp_doneA {g1 : Heap} {ys : List Value} {V1 : List (Addr × Obj)} {C D : Addr} {oL : Obj} {h : Heap} {tk : Nat} {m₂ : Str → Option Value} {y : Str} {py : Pos} {Q : Value → Shared → Prop} (F0 : Fm base g env.locals m V s.heap) (q : NsObj oL m)
    (F : Fm base g1 C m₂ ((env.locals, oL) :: (D, lst ys) :: V1) h)
    (k : ∀ g2 h' tk', Le g1 g2 → Fm base g2 env.locals (fun z => if z = y then some (.ref D) else m z) V1 h' → g2.IsList D ys.toArray → Q .none { s with heap := h', toks := tk' })
    (hk : env.scope.kind = .function := by rfl) (hl : env.kindOf y = some .local := by rfl) :
    compPost (model prog w) A E (some (assign (.Name y py) env)) Q (.ref D) C (.ok .next) { s with heap := h, toks := tk } := by
  obtain ⟨oC, eC, qC⟩ := ns_obj F.F.ns
  have B := F.back q F0.F.above
  have B : Fm base g1 env.locals m ((C, oC) :: (D, lst ys) :: V1) h := Fm.addOld B eC F.offL (Ne.symm fun e => F.volL (env.locals, oL) (.head _) e.symm) fun p hp => F.volL p (.tail _ hp)
  show wpAny _ _ (assign (.Name y py) env (.ref D)) _ _ _
  refine wpAny_assign_Name (fm_st (s := { s with heap := h, toks := tk }) B (fun h₁ F₁ => ?_) hk hl)
  refine ⟨m₂, qC.ns (F₁.vol (C, oC) (.head _)), fun h' hs => ?_⟩
  obtain ⟨g2, F2, l2, e2⟩ := (F₁.away hs.extBut).freezeV
  exact k g2 h' _ l2 F2 ⟨_, e2, rfl, _, rfl⟩
end
end
section
open PySem PySem.W PyProof.Rows PySem.Calls
set_option maxRecDepth 100000
section
variable {w : World} {A : Around} {E : Value → Shared → Prop} {s : Shared} {base g : Heap} {L f x a : Addr} {m mg mb : Str → Option Value} {V : List (Addr × Obj)}

theorem flat_keys {kvs : List (Int × Value)} {c : List (Int × Int)} : PyProof.V.FlatPairs PyData.int kvs (kdfD c) → kvs.map (·.1) = c.map (·.1) := by
  induction c generalizing kvs with
  | nil => intro h; cases h; rfl
  | cons p c ih => intro h; cases h with | cons hf r => rw [List.map_cons, List.map_cons, ih r]
theorem ID.nodup {h : Heap} {c : List (Int × Int)} (i : ID w h a c) : (c.map (·.1)).Nodup := by
  obtain ⟨lo, kvs, ⟨o, es, ep, _, _, _, _, _, nd⟩, hf⟩ := i
  rw [← flat_keys hf]; exact nd
theorem look_at {c : List (Int × Int)} (nd : (c.map (·.1)).Nodup) {i : Nat} {p : Int × Int} (e : c[i]? = some p) : kdfLook c p.1 0 = p.2 ∧ kdfHas c p.1 = true := by
  induction c generalizing i with
  | nil => simp at e
  | cons q c ih =>
    rw [List.map_cons, List.nodup_cons] at nd
    cases i with
    | zero =>
      simp at e; subst e
      simp [kdfLook, kdfHas]
    | succ i =>
      rw [List.getElem?_cons_succ] at e
      have hm : p.1 ∈ c.map (·.1) := List.mem_map_of_mem (List.mem_of_getElem? e)
      have ne : ¬ q.1 = p.1 := fun z => nd.1 (z ▸ hm)
      obtain ⟨h1, h2⟩ := ih nd.2 e
      simp only [kdfLook, kdfHas, List.find?_cons, List.any_cons, ne, decide_false, Bool.false_or] at h1 h2 ⊢
      exact ⟨h1, h2⟩
theorem Src.dict {c : List (Int × Int)} (hh : A.handled = none) (i : ID w g a c) : Src pg w A g (.ref a) c.length (fun i v => ∃ p t, c[i]? = some p ∧ v = .int p.1 t) where
  it := fun F k => by
    obtain ⟨lo, kvs, hd, hf⟩ := i
    have el : kvs.length = c.length := by have := flat_keys hf; have := congrArg List.length this; simpa using this
    refine (Src.keys (knd := intKind pg w) hh lo hd).it F fun I oI fp St h' W a1 a2 a3 a4 a5 => k I oI fp St h' ?_ a1 a2 a3 a4 a5
    rw [← el]
    refine { sub := W.sub, frame := W.frame, done := W.done, self := W.self, item := fun i s Q E hi st hQ => W.item i s Q E hi st fun v h' tk hP => hQ v h' tk ?_ }
    obtain ⟨k', x, e, q⟩ := hP
    obtain ⟨t, rfl⟩ := Value.isInt_shape q
    have hk := flat_keys hf
    have : (kvs.map (·.1))[i]? = some k' := by rw [List.getElem?_map, e]; rfl
    rw [hk, List.getElem?_map] at this
    obtain ⟨p, e1, e2⟩ := Option.map_eq_some_iff.mp this
    exact ⟨p, t, e1, by rw [e2]⟩

theorem id_item {prog : Program} {value slice : PySem.Expr} {d : Addr} {c : List (Int × Int)} {k : Int} {tk : Tok} {Q : Value → Shared → Prop} (T : IntTab prog w s.heap d (kdfD c)) (hk : kdfHas c k = true) (h : ∀ t, Q (.int (kdfLook c k 0) t) { s with toks := s.toks + 1 })
    (hs : subscripted slice false (.ref d) (.int k tk) = operate [.ref d, .int k tk] (getItem (.ref d) (.int k tk)) := by with_unfolding_all rfl) :
    wpAny (model prog w) A (subscriptTail value slice (.ref d) (.int k tk)) Q E s :=
  tail_any (let ⟨_, _, hd, _⟩ := T; hd.typeIs) slot_dict_getitem.lookup (getItem_tab PyProof.V.same_int (intKind_is _ _ _ _) T (kdfD_item hk) fun v hv => by
    obtain ⟨t, ht⟩ := PyProof.V.Flat.int_inv hv
    rw [ht]
    exact h t) hs
def mx (a b : Int) : Int := if b > a then b else a
def cnt (c : List (Int × Int)) : Int := (c.map (·.2)).foldl mx 0 + 1

end
end
local macro_rules | `(tactic| walk_at "subscriptTail") => `(tactic| ((with_reducible show wpAny _ _ (subscriptTail _ _ (Value.ref _) (Value.int _ _)) _ _ _); refine id_item (ID.keeps (by assumption) (by walk_at "le")) (by assumption) ?_; intro _))
local macro_rules | `(tactic| walk_at "eval ListComp") => `(tactic| (refine ListComp_ ?_))
section
open PySem PySem.W PyProof.Rows PySem.Calls
set_option maxRecDepth 100000
section
variable {w : World} {A : Around} {E : Value → Shared → Prop} {s : Shared} {base g : Heap} {L f x a : Addr} {m mg mb : Str → Option Value} {V : List (Addr × Obj)}

theorem count_spec {c : List (Int × Int)} {Q : Value → Shared → Prop} (D : Md w base mg mb) (F : Fm base g L m V s.heap) (R : Room A 4) (hc : CD g x a) (hd : ID w g a c)
    (h : ∀ g' h' tk t', Fm base g' L m V h' → Le g g' → Q (.int (cnt c) t') { s with heap := h', toks := tk }) :
    wpAny (model pg w) A (call (.ref 56) [.ref x]) Q E s := by
  refine call_fn (Post := fun g' v => ∃ t', v = .int (cnt c) t') (binds := [("self", .ref x)]) F (R.le (by omega)) D.lim (D.X _ _ rfl) rfl (codeRec_of D.X rfl) (.of_eq rfl) (by decide) (by simp) ?_ ?_
  · intro L' h₁ W F₁
    iterate 9 walk1
    refine pyIter_loop (Src.dict R.handled hd) (by assumption) (fun i g1 m1 V1 => V1 = W ∧ m1 "self" = some (.ref x) ∧ ∃ t, m1 "most" = some (.int (((c.map (·.2)).take i).foldl mx 0) t)) ⟨rfl, rfl, _, rfl⟩ ?_ ?_
    · rintro i v g1 m1 V1 I oI h tk hi ⟨p, t, e, rfl⟩ le ⟨rfl, hs, tm, hm⟩ F₂
      have hc1 := hc.keeps le
      have hd1 := hd.keeps le
      obtain ⟨lk, hk⟩ := look_at hd.nodup e
      iterate 20 walk1
      refine Turn.next [] (by assumption) Le.rfl' ?_
      refine ⟨rfl, hs, ?_⟩
      have e2 : ((c.map (·.2)).take (i + 1)).foldl mx 0 = mx (((c.map (·.2)).take i).foldl mx 0) p.2 := by
        rw [List.take_add_one, List.getElem?_map, e]; simp
      rw [e2, ← lk]
      unfold mx
      split
      · exact ⟨_, rfl⟩
      · exact ⟨_, rfl⟩
    · rintro g1 m1 V1 h tk le ⟨rfl, hs, tm, hm⟩ F₂
      rw [List.take_of_length_le (by simp)] at hm
      iterate 6 walk1
      exact End.ret [] (by assumption) (by assumption) ⟨_, rfl⟩
  · rintro g' h' tk v F' l ⟨t', rfl⟩
    exact h g' h' tk t' F' l
end
end
section
open PySem PySem.W PyProof.Rows PySem.Calls
set_option maxRecDepth 100000

/-- the data that the law's lists hold: an int, or a tuple of ints -/
inductive Dv where
  | i (n : Int)
  | t (l : List Int)
  deriving DecidableEq
def Dv.py : Dv → PyData
  | .i n => .int n
  | .t l => .tuple (l.map .int)
abbrev pys (ds : List Dv) : List PyData := ds.map Dv.py

theorem eqvAll_ints : ∀ a b : List Int, PyData.eqvAll (a.map .int) (b.map .int) = decide (a = b)
  | [], [] => by simp [PyData.eqvAll]
  | [], _ :: _ => by simp [PyData.eqvAll]
  | _ :: _, [] => by simp [PyData.eqvAll]
  | x :: a, y :: b => by
    simp only [List.map_cons, PyData.eqvAll, PyData.eqv, eqvAll_ints a b, List.cons.injEq, Bool.decide_and]
    by_cases h : x = y <;> simp [h]
theorem eqv_py (a b : Dv) : PyData.eqv a.py b.py = decide (a = b) := by
  cases a with
  | i n => cases b with
    | i m => simp only [Dv.py, PyData.eqv, Dv.i.injEq]; by_cases h : n = m <;> simp [h]
    | t l => simp [Dv.py, PyData.eqv]
  | t k => cases b with
    | i m => simp [Dv.py, PyData.eqv]
    | t l => simp only [Dv.py, PyData.eqv, eqvAll_ints, Dv.t.injEq]
theorem eqv_pys : ∀ a b : List Dv, PyData.eqvAll (pys a) (pys b) = decide (a = b)
  | [], [] => by simp [PyData.eqvAll]
  | [], _ :: _ => by simp [PyData.eqvAll]
  | _ :: _, [] => by simp [PyData.eqvAll]
  | x :: a, y :: b => by
    have := eqv_pys a b
    simp only [pys] at this
    simp only [pys, List.map_cons, PyData.eqvAll, eqv_py, this, List.cons.injEq, Bool.decide_and]
theorem lay_ints : ∀ a : List Int, PyData.canLayAll0 (a.map .int) = true ∧ PyData.depthAll (a.map .int) = 0
  | [] => by simp [PyData.canLayAll0, PyData.depthAll]
  | x :: a => by simp [PyData.canLayAll0, PyData.depthAll, PyData.canLay0, PyData.depth, lay_ints a]
theorem lay_py (d : Dv) : d.py.canLay0 = true ∧ d.py.depth ≤ 1 := by
  cases d with
  | i n => simp [Dv.py, PyData.canLay0, PyData.depth]
  | t l => simp [Dv.py, PyData.canLay0, PyData.depth, lay_ints l]
theorem lay_pys : ∀ a : List Dv, PyData.canLayAll0 (pys a) = true ∧ PyData.depthAll (pys a) ≤ 1
  | [] => by simp [PyData.canLayAll0, PyData.depthAll]
  | d :: a => by
    have h1 := lay_py d
    have h2 := lay_pys a
    simp only [pys] at h2
    simp only [pys, List.map_cons, PyData.canLayAll0, PyData.depthAll, h1.1, h2.1, Bool.and_self, true_and]
    omega

/-- v reads as d; the values vs as ds; the list at a as ds; the tuple at a as ds -/
def RD (g : Heap) (v : Value) (d : Dv) : Prop := ∃ as, Reads g v d.py as
def RA (g : Heap) (vs : List Value) (ds : List Dv) : Prop := ∃ as, ReadsAll g vs (pys ds) as
def RL (g : Heap) (a : Addr) (ds : List Dv) : Prop := ∃ vs, g.IsList a vs.toArray ∧ RA g vs ds
def RT (g : Heap) (a : Addr) (ds : List Dv) : Prop := ∃ vs, g.IsTuple a vs.toArray ∧ RA g vs ds

section
variable {g g' h : Heap} {v : Value} {d : Dv} {vs : List Value} {ds : List Dv} {a : Addr}
theorem RD.keeps (r : RD g v d) (l : Le g g') : RD g' v d := let ⟨as, r⟩ := r; ⟨as, PyProof.Rows.Reads.keeps l r⟩
theorem RA.keeps (r : RA g vs ds) (l : Le g g') : RA g' vs ds := let ⟨as, r⟩ := r; ⟨as, PyProof.Rows.ReadsAll.keeps l r⟩
theorem RL.keeps (r : RL g a ds) (l : Le g g') : RL g' a ds := let ⟨vs, ⟨o, e, q⟩, r⟩ := r; ⟨vs, ⟨o, l _ _ e, q⟩, r.keeps l⟩
theorem RT.keeps (r : RT g a ds) (l : Le g g') : RT g' a ds := let ⟨vs, ⟨o, e, q⟩, r⟩ := r; ⟨vs, ⟨o, l _ _ e, q⟩, r.keeps l⟩
theorem RD.int (n : Int) (t : Tok) : RD g (.int n t) (.i n) := ⟨_, Reads.int n t⟩
theorem RD.int_inv {n : Int} (r : RD g v (.i n)) : ∃ t, v = .int n t := by
  obtain ⟨as, r⟩ := r; cases r with | int _ t => exact ⟨t, rfl⟩
theorem RA.nil : RA g [] [] := ⟨_, ReadsAll.nil⟩
theorem RA.cons (r : RD g v d) (rs : RA g vs ds) : RA g (v :: vs) (d :: ds) := let ⟨_, r⟩ := r; let ⟨_, rs⟩ := rs; ⟨_, ReadsAll.cons r rs⟩
theorem RA.snoc : ∀ {vs : List Value} {ds : List Dv}, RA g vs ds → RD g v d → RA g (vs ++ [v]) (ds ++ [d])
  | [], [], _, r => RA.cons r .nil
  | [], _ :: _, rs, _ => by obtain ⟨_, rs⟩ := rs; cases rs
  | _ :: _, [], rs, _ => by obtain ⟨_, rs⟩ := rs; cases rs
  | u :: vs, e :: ds, rs, r => by
    obtain ⟨_, rs⟩ := rs
    cases rs with | cons r1 r2 => exact RA.cons ⟨_, r1⟩ (RA.snoc ⟨_, r2⟩ r)
theorem RA.len : ∀ {vs : List Value} {ds : List Dv}, RA g vs ds → vs.length = ds.length
  | [], [], _ => rfl
  | [], _ :: _, rs => by obtain ⟨_, rs⟩ := rs; cases rs
  | _ :: _, [], rs => by obtain ⟨_, rs⟩ := rs; cases rs
  | u :: vs, e :: ds, rs => by
    obtain ⟨_, rs⟩ := rs
    cases rs with | cons r1 r2 => rw [List.length_cons, List.length_cons, RA.len ⟨_, r2⟩]
theorem RA.at : ∀ {vs : List Value} {ds : List Dv} {i : Nat} {v : Value}, RA g vs ds → vs[i]? = some v → ∃ d, ds[i]? = some d ∧ RD g v d
  | [], _, _, _, _, e => by simp at e
  | _ :: _, [], _, _, rs, _ => by obtain ⟨_, rs⟩ := rs; cases rs
  | u :: vs, e :: ds, i, v, rs, q => by
    obtain ⟨_, rs⟩ := rs
    cases rs with
    | cons r1 r2 =>
      cases i with
      | zero => simp at q; subst q; exact ⟨e, by simp, _, r1⟩
      | succ i => rw [List.getElem?_cons_succ] at q ⊢; exact RA.at ⟨_, r2⟩ q
theorem RA.at' {i : Nat} (r : RA g vs ds) (e : ds[i]? = some d) : ∃ v, vs[i]? = some v ∧ RD g v d := by
  have hl := r.len
  have hi : i < vs.length := by rw [hl]; exact (List.getElem?_eq_some_iff.mp e).1
  obtain ⟨d', e', q⟩ := r.at (List.getElem?_eq_getElem hi)
  rw [e] at e'; cases e'
  exact ⟨_, List.getElem?_eq_getElem hi, q⟩
theorem RA.ints {ns : List Int} : ∀ {vs : List Value} {ns : List Int}, IntsAre vs ns → RA g vs (ns.map .i)
  | _, _, .nil => .nil
  | _, _, .cons n t r => RA.cons (RD.int n t) (RA.ints (ns := ns) r)
theorem RA.intsAre : ∀ {vs : List Value} {ns : List Int}, RA g vs (ns.map .i) → IntsAre vs ns
  | [], [], _ => .nil
  | [], _ :: _, rs => by obtain ⟨_, rs⟩ := rs; cases rs
  | _ :: _, [], rs => by obtain ⟨_, rs⟩ := rs; cases rs
  | u :: vs, e :: ds, rs => by
    obtain ⟨_, rs⟩ := rs
    cases rs with
    | cons r1 r2 =>
      obtain ⟨t, rfl⟩ := RD.int_inv ⟨_, r1⟩
      exact .cons _ _ (RA.intsAre ⟨_, r2⟩)
/-- a tuple of ints made -/
theorem RD.tup {ns : List Int} {n : Nat} {od : Option Addr} {sl : Array (Option Value)} (e : g.get? a = some { cls := .type "tuple", dict := od, data := .seq vs.toArray n, slots := sl }) (hi : IntsAre vs ns) : RD g (.ref a) (.t ns) := by
  obtain ⟨as, r⟩ := RA.ints (g := g) (ns := ns) hi
  refine ⟨as, Reads.tuple e rfl rfl ?_⟩
  have : pys (ns.map .i) = ns.map .int := by simp [pys, Dv.py, Function.comp_def]
  rw [this] at r
  simpa using r
theorem RD.tup_inv {ns : List Int} (r : RD g v (.t ns)) : ∃ a vs, v = .ref a ∧ g.IsTuple a vs.toArray ∧ IntsAre vs ns := by
  obtain ⟨as, r⟩ := r
  cases r with
  | @tuple a o vs n xs _ h1 h2 h3 h4 =>
    refine ⟨a, vs.toList, rfl, ⟨o, h1, h2, n, by simpa using h3⟩, RA.intsAre (g := g) ⟨as, ?_⟩⟩
    have : pys (ns.map .i) = ns.map .int := by simp [pys, Dv.py, Function.comp_def]
    rw [this]; exact h4
theorem RL.reads (r : RL g a ds) : ∃ as, Reads g (.ref a) (.list (pys ds)) as := by
  obtain ⟨vs, ⟨o, h1, h2, n, h3⟩, as, h4⟩ := r
  exact ⟨_, Reads.list h1 h2 h3 (by simpa using h4)⟩
theorem RT.reads (r : RT g a ds) : ∃ as, Reads g (.ref a) (.tuple (pys ds)) as := by
  obtain ⟨vs, ⟨o, h1, h2, n, h3⟩, as, h4⟩ := r
  exact ⟨_, Reads.tuple h1 h2 h3 (by simpa using h4)⟩
end

section
variable {prog : Program} {w : World} {A : Around} {E : Value → Shared → Prop} {s : Shared} {base g : Heap} {L a b : Addr} {m : Str → Option Value} {V : List (Addr × Obj)} {Q : Value → Shared → Prop} {ds es : List Dv} {vs : List Value}

/-! comparisons -/
theorem shaped_list (ds : List Dv) : SeqAt.shaped (.list (pys ds)) = true := by
  have := lay_pys ds
  unfold SeqAt.shaped
  simp only [PyData.canLay0, PyData.depth, this.1, Bool.true_and]
  exact decide_eq_true (by omega)
theorem shaped_tuple (ds : List Dv) : SeqAt.shaped (.tuple (pys ds)) = true := by
  have := lay_pys ds
  unfold SeqAt.shaped
  simp only [PyData.canLay0, PyData.depth, this.1, Bool.true_and]
  exact decide_eq_true (by omega)
theorem shaped_py (d : Dv) : SeqAt.shaped d.py = true := by
  have := lay_py d
  unfold SeqAt.shaped
  simp only [this.1, Bool.true_and]
  exact decide_eq_true (by omega)
theorem Room.u64 {n : Nat} (R : Room A n) : A.units + 64 < cLine := by have := R.units; omega
theorem eq_rl (R : Room A 0) (ra : RL g a ds) (rb : RL g b es) (le : Le g s.heap) (h : Q (.bool (decide (ds = es))) s) : wpAny (model prog w) A (compareOp .Eq (.ref a) (.ref b)) Q E s := by
  obtain ⟨_, ra⟩ := (ra.keeps le).reads
  obtain ⟨_, rb⟩ := (rb.keeps le).reads
  exact eq_dataH ra rb (shaped_list _) (shaped_list _) R.u64 (by rw [PyData.eqv, eqv_pys]; exact h)
theorem ne_rl (R : Room A 0) (ra : RL g a ds) (rb : RL g b es) (le : Le g s.heap) (h : Q (.bool (!decide (ds = es))) s) : wpAny (model prog w) A (compareOp .NotEq (.ref a) (.ref b)) Q E s := by
  obtain ⟨_, ra⟩ := (ra.keeps le).reads
  obtain ⟨_, rb⟩ := (rb.keeps le).reads
  exact ne_dataH ra rb (shaped_list _) (shaped_list _) R.u64 (by rw [PyData.eqv, eqv_pys]; exact h)
theorem ne_rt (R : Room A 0) (ra : RT g a ds) (rb : RT g b es) (le : Le g s.heap) (h : Q (.bool (!decide (ds = es))) s) : wpAny (model prog w) A (compareOp .NotEq (.ref a) (.ref b)) Q E s := by
  obtain ⟨_, ra⟩ := (ra.keeps le).reads
  obtain ⟨_, rb⟩ := (rb.keeps le).reads
  exact ne_dataH ra rb (shaped_tuple _) (shaped_tuple _) R.u64 (by rw [PyData.eqv, eqv_pys]; exact h)
theorem ne_rd {u v : Value} {d e : Dv} (R : Room A 0) (ra : RD g u d) (rb : RD g v e) (le : Le g s.heap) (h : Q (.bool (!decide (d = e))) s) : wpAny (model prog w) A (compareOp .NotEq u v) Q E s := by
  obtain ⟨_, ra⟩ := ra.keeps le
  obtain ⟨_, rb⟩ := rb.keeps le
  exact ne_dataH ra rb (shaped_py _) (shaped_py _) R.u64 (by rw [eqv_py]; exact h)

/-! list.index -/
theorem index_rl {x : Value} {d : Dv} {j : Nat} (R : Room A 0) (ra : RL g a ds) (rx : RD g x d) (le : Le g s.heap) (hj : ds[j]? = some d) (hno : ∀ i, i < j → ds[i]? ≠ some d) (hs : (j : Int) < 2 ^ 63 - 1)
    (h : Q (.int j s.toks) { s with toks := s.toks + 1 }) : wpAny (model prog w) A (call (.builtin "list.index") [.ref a, x]) Q E s := by
  obtain ⟨vs, ⟨⟨cls, od, data, sl⟩, h1, h2, n, h3⟩, hra⟩ := ra.keeps le
  dsimp only at h2 h3
  subst h2 h3
  obtain ⟨_, rx⟩ := rx.keeps le
  have hlen := hra.len
  have hjl : j < vs.length := by rw [hlen]; exact (List.getElem?_eq_some_iff.mp hj).1
  have lay := lay_pys ds
  have layd := lay_py d
  obtain ⟨as, hra'⟩ := hra
  have rd : ∀ i (hi : i < vs.length), SeqAt.readOf s.heap (vs[i]) = (ds[i]'(by rw [← hlen]; exact hi)).py := by
    intro i hi
    have := SeqAt.readsAll_map _ _ _ lay.1 hra'
    have e := congrArg (fun l => l[i]?) this
    simp only [List.getElem?_map, List.getElem?_eq_getElem hi, List.getElem?_eq_getElem (show i < ds.length by rw [← hlen]; exact hi), Option.map_some, Option.some.injEq] at e
    exact e
  have hd : ds[j]'(by rw [← hlen]; exact hjl) = d := by
    have := List.getElem?_eq_some_iff.mp hj
    exact this.2
  have min1 : min (PyData.depthAll (pys ds)) d.py.depth ≤ 1 := Nat.le_trans (Nat.min_le_left _ _) lay.2
  refine call_meets PySem.F.slot_list_index ⟨_, h1, rfl⟩ PySem.F.entry_list_index (PySem.F.args_list_index_2 _ _)
    (SeqAt.list_indexAt a vs.toArray n od sl x (fun y => PyData.eqv (SeqAt.readOf s.heap y) d.py) j (by simpa using hjl) hs ?_ ?_) ⟨h1, ?_, ?_⟩
  · simp only [List.getElem_toArray]
    rw [rd j hjl, hd, eqv_py]; simp
  · intro i hi hij
    have hi' : i < vs.length := by simpa using hi
    simp only [List.getElem_toArray]
    rw [rd i hi', eqv_py, decide_eq_false]
    intro e
    exact hno i hij (by rw [List.getElem?_eq_getElem (by rw [← hlen]; exact hi'), e])
  · have hu := R.units
    exact SeqAt.items_eqAt (A := A) (vs := vs.toArray) (by simpa using hra') rx lay.1 layd.1 (by omega)
  · exact h
end
end
section
open PySem PySem.W PyProof.Rows PySem.Calls
set_option maxRecDepth 100000
section
variable {prog : Program} {w : World} {A : Around} {E : Value → Shared → Prop} {s : Shared} {base g : Heap} {L a b : Addr} {m mg mb : Str → Option Value} {V : List (Addr × Obj)} {ds es : List Dv} {vs : List Value}

theorem fm_tuple {Q : Value → Shared → Prop} (F : Fm base g L m V s.heap) (k : ∀ g' h' T, Fm base g' L m V h' → Le g g' → g'.get? T = some { cls := .type "tuple", data := .seq vs.toArray } → Q (.ref T) { s with heap := h' }) (hz : vs.length ≤ 100 := by simp) :
    wpAny (model prog w) A (newTuple vs) Q E s := by
  obtain ⟨g', F', l, e⟩ := F.alloc { cls := .type "tuple", data := .seq vs.toArray } rfl
  exact wpAny_newObj_type (k g' _ _ F' l e) (by show vs.toArray.size ≤ sizeLine; rw [List.size_toArray, sizeLine_eq]; omega)

/-- a tuple of two ints -/
theorem fm_pair {Q : Value → Shared → Prop} {x y : Int} {t u : Tok} (F : Fm base g L m V s.heap) (k : ∀ g' h' T, Fm base g' L m V h' → Le g g' → RD g' (.ref T) (.t [x, y]) → Q (.ref T) { s with heap := h' }) :
    wpAny (model prog w) A (newTuple [.int x t, .int y u]) Q E s :=
  fm_tuple F fun g' h' T F' l e => k g' h' T F' l (RD.tup e (.cons _ _ (.cons _ _ .nil)))

theorem fm_list {Q : Value → Shared → Prop} (F : Fm base g L m V s.heap) (k : ∀ g' h' T, Fm base g' L m V h' → Le g g' → g'.IsList T vs.toArray → Q (.ref T) { s with heap := h' }) (hz : vs.length ≤ 100 := by simp) :
    wpAny (model prog w) A (newList vs) Q E s := by
  obtain ⟨g', F', l, e⟩ := F.alloc { cls := .type "list", data := .seq vs.toArray } rfl
  exact wpAny_newObj_type (k g' _ _ F' l ⟨_, e, rfl, _, rfl⟩) (by show vs.toArray.size ≤ sizeLine; rw [List.size_toArray, sizeLine_eq]; omega)
/-- a list that will turn -/
theorem fm_listV {Q : Value → Shared → Prop} (F : Fm base g L m V s.heap) (k : ∀ h' T, Fm base g L m ((T, { cls := .type "list", data := .seq vs.toArray }) :: V) h' → Q (.ref T) { s with heap := h' }) (hz : vs.length ≤ 100 := by simp) :
    wpAny (model prog w) A (newList vs) Q E s :=
  wpAny_newObj_type (k _ _ (F.allocV { cls := .type "list", data := .seq vs.toArray } rfl)) (by show vs.toArray.size ≤ sizeLine; rw [List.size_toArray, sizeLine_eq]; omega)

theorem fm_range1 {Q : Value → Shared → Prop} {n : Int} {t : Tok} (F : Fm base g L m V s.heap) (k : ∀ g' h' r tk t u v, Fm base g' L m V h' → Le g g' → IsRange g' r 0 n 1 t u v → Q (.ref r) { s with heap := h', toks := tk }) :
    wpAny (model prog w) A (call (.type "range") [.int n t]) Q E s := by
  obtain ⟨g', F', l, e⟩ := F.alloc { cls := .type "range", data := .fields #[.int 0 s.toks, .int n t, .int 1 (s.toks + 1)] } rfl
  exact call_range_1 (k g' _ _ _ _ _ _ F' l e)
theorem fm_range2 {Q : Value → Shared → Prop} {x n : Int} {t t' : Tok} (F : Fm base g L m V s.heap) (k : ∀ g' h' r tk t u v, Fm base g' L m V h' → Le g g' → IsRange g' r x n 1 t u v → Q (.ref r) { s with heap := h', toks := tk }) :
    wpAny (model prog w) A (call (.type "range") [.int x t, .int n t']) Q E s := by
  obtain ⟨g', F', l, e⟩ := F.alloc { cls := .type "range", data := .fields #[.int x t, .int n t', .int 1 s.toks] } rfl
  exact call_range_2 (k g' _ _ _ _ _ _ F' l e)
theorem Src.range0 {r : Addr} {t u v : Tok} (n : Nat) (hn : n ≤ 1000) (hh : A.handled = none) (hr : IsRange g r 0 (n : Int) 1 t u v) : Src prog w A g (.ref r) n (fun i v => ∃ t, v = .int (i : Int) t) := by
  have S := Src.range (prog := prog) (w := w) (n := n) hh hr (small_one (by omega) (by omega) (by omega) (by omega)) (by rw [rangeSize_one]; split <;> omega)
  simpa using S

theorem fm_len {Q : Value → Shared → Prop} (hl : g.IsList a vs.toArray) (le : Le g s.heap) (hz : vs.length ≤ 1000) (k : ∀ tk t, Q (.int vs.length t) { s with toks := tk }) :
    wpAny (model prog w) A (call (.builtin "len") [.ref a]) Q E s := by
  obtain ⟨o, e, r⟩ := hl
  have := k (s.toks + 1 + 1) (s.toks + 1)
  exact call_len_list ⟨o, le _ _ e, r⟩ (by simp; omega) (by simpa using this)

theorem fm_item {Q : Value → Shared → Prop} {value slice : PySem.Expr} {k : Int} {t : Tok} {v : Value} (hl : g.IsList a vs.toArray) (le : Le g s.heap) (h0 : 0 ≤ k) (hhi : k < 2 ^ 63) (hv : vs[k.toNat]? = some v) (h : Q v s)
    (hs : subscripted slice false (.ref a) (.int k t) = operate [.ref a, .int k t] (getItem (.ref a) (.int k t)) := by with_unfolding_all rfl) :
    wpAny (model prog w) A (subscriptTail value slice (.ref a) (.int k t)) Q E s := by
  obtain ⟨o, e, r⟩ := hl
  have hl' : s.heap.IsList a vs.toArray := ⟨o, le _ _ e, r⟩
  exact tail_any hl'.typeIs slot_list_getitem.lookup (wpAny_getItem_list hl' h0 hhi (by simpa using hv) h) hs

theorem Src.rl (hh : A.handled = none) (r : RL g a ds) : Src prog w A g (.ref a) ds.length (fun i v => ∃ d, ds[i]? = some d ∧ RD g v d) where
  it := fun F k => by
    obtain ⟨vs, hl, ra⟩ := r
    have el := ra.len
    refine (Src.list hh hl).it F fun I oI fp St h' W a1 a2 a3 a4 a5 => k I oI fp St h' ?_ a1 a2 a3 a4 a5
    rw [← el, ← List.size_toArray]
    refine { sub := W.sub, frame := W.frame, done := W.done, self := W.self, item := fun i s Q E hi st hQ => W.item i s Q E hi st fun v h' tk hP => hQ v h' tk (ra.at (by simpa using hP)) }

/-- tuple(l) -/
theorem fm_tupleOf {Q : Value → Shared → Prop} (F : Fm base g L m V s.heap) (r : RL g a ds) (hz : ds.length ≤ 1000) (k : ∀ g' h' T, Fm base g' L m V h' → Le g g' → RT g' T ds → Q (.ref T) { s with heap := h' }) :
    wpAny (model prog w) A (call (.type "tuple") [.ref a]) Q E s := by
  obtain ⟨vs, ⟨o, e, q⟩, ra⟩ := r
  have el := ra.len
  refine call_tuple_list (items := vs.toArray) ⟨o, F.le _ _ e, q⟩ (fun h' hk => ?_) (by rw [List.size_toArray, sizeLine_eq]; omega)
  obtain ⟨g', F', l, e⟩ := (F.grow hk).alloc { cls := .type "tuple", data := .seq vs.toArray } rfl
  exact k g' _ _ F' l ⟨vs, ⟨_, e, rfl, _, rfl⟩, ra.keeps l⟩

/-- l + l' -/
theorem fm_add {Q : Value → Shared → Prop} {us : List Value} (F : Fm base g L m V s.heap) (hl : g.IsList a us.toArray) (hb : g.IsList b vs.toArray) (hz : us.length + vs.length ≤ 1000)
    (k : ∀ g' h' T, Fm base g' L m V h' → Le g g' → g'.IsList T (us ++ vs).toArray → Q (.ref T) { s with heap := h' }) : wpAny (model prog w) A (binaryOp .Add (.ref a) (.ref b)) Q E s := by
  obtain ⟨⟨cls, dd, data, sl⟩, ho, hc, n, hd⟩ := hl
  obtain ⟨⟨cls2, dd2, data2, sl2⟩, ho2, hc2, n2, hd2⟩ := hb
  simp only at hc hd hc2 hd2
  subst hc hd hc2 hd2
  have ho := F.le _ _ ho
  have ho2 := F.le _ _ ho2
  have e : us.toArray ++ vs.toArray = (us ++ vs).toArray := by simp
  refine concat_meets ⟨_, ho, rfl⟩ ⟨_, ho2, rfl⟩ noFill_list_add seq_list_add PySem.F.slot_list_add PySem.F.entry_list_add (PySem.F.args_list_add_2 _ _) (list_addW a b us.toArray vs.toArray n n2 dd dd2 sl sl2 (by simp; rw [sizeLine_eq]; omega)) ⟨ho, ho2, ?_⟩
  rw [e]
  obtain ⟨g', F', l, e⟩ := F.alloc { cls := .type "list", data := .seq (us ++ vs).toArray } rfl
  exact k g' _ _ F' l ⟨_, e, rfl, _, rfl⟩

theorem keys_ints : ∀ (vs : List Value) (ks : List (Int × Value)), vs.length = ks.length → (∀ (j : Nat) (v : Value), vs[j]? = some v → ∃ k x, ks[j]? = some (k, x) ∧ (intKind prog w).is k v = true) → IntsAre vs (ks.map (·.1))
  | [], [], _, _ => .nil
  | [], _ :: _, h, _ => by simp at h
  | _ :: _, [], h, _ => by simp at h
  | v :: vs, q :: ks, h, hx => by
    obtain ⟨k, x, e, hk⟩ := hx 0 v (by simp)
    simp at e; subst e
    obtain ⟨t, rfl⟩ := Value.isInt_shape hk
    exact .cons _ _ (keys_ints vs ks (by simpa using h) fun j v hj => by simpa using hx (j + 1) v (by simpa using hj))
/-- list(d), of a dict with int keys -/
theorem fm_listOfDict {Q : Value → Shared → Prop} {d : Addr} {kvs : List (Int × Value)} (hh : A.handled = none) (F : Fm base g L m V s.heap) (lo : (d == sysModules) = false) (hd : g.DictOf (intKind prog w) d kvs) (hz : kvs.length ≤ 1000)
    (k : ∀ g' h' tk T vs, Fm base g' L m V h' → Le g g' → g'.IsList T vs.toArray → IntsAre vs (kvs.map (·.1)) → Q (.ref T) { s with heap := h', toks := tk }) :
    wpAny (model prog w) A (call (.type "list") [.ref d]) Q E s := by
  obtain ⟨o, es, ep, ho, r⟩ := hd
  refine kdl_call (kdl_dict (prog := prog) (w := w) (knd := intKind prog w) (kvs := kvs) (ep := ep) lo) hh ⟨o, es, F.le _ _ ho, r⟩ (by rw [sizeLine_eq]; omega) fun h' tk acc c hk hD hacc => ?_
  obtain ⟨g', F', l, n⟩ := F.grown hk
  refine k g' h' tk _ acc.toList F' l ⟨_, n _ _ hD (get_size_none _), rfl, c, by simp⟩ ?_
  exact keys_ints (prog := prog) (w := w) _ _ (by rw [Array.length_toList]; exact hacc.1) fun j v e => hacc.2 j v (by rw [← Array.getElem?_toList]; exact e)

/-- sorted(d), of a dict with int keys -/
theorem fm_sortedDict {Q : Value → Shared → Prop} {d : Addr} {kvs : List (Int × Value)} (hh : A.handled = none) (F : Fm base g L m V s.heap) (lo : (d == sysModules) = false) (hd : g.DictOf (intKind prog w) d kvs) (hz : kvs.length < 64)
    (k : ∀ g' h' tk T vs ns, Fm base g' L m V h' → Le g g' → g'.IsList T vs.toArray → IntsAre vs ns → ns.Perm (kvs.map (·.1)) → ns.Pairwise (· ≤ ·) → Q (.ref T) { s with heap := h', toks := tk }) :
    wpAny (model prog w) A (call (.builtin "sorted") [.ref d]) Q E s := by
  obtain ⟨o, es, ep, ho, r⟩ := hd
  refine Calls.call_function_entry kind_sorted plain_sorted entry_sorted (args_sorted1 _) ?_
  unfold Builtin.«sorted»
  refine wpAny_bind (m := checkCount "sorted" 1 1 _) (wpAny_pure ?_)
  refine wpAny_bind (kdu_collect (A := A.in1) (kdl_dict (prog := prog) (w := w) (knd := intKind prog w) (kvs := kvs) (ep := ep) lo) hh ⟨o, es, F.le _ _ ho, r⟩ (by rw [sizeLine_eq]; omega) fun h' tk acc hk hacc => ?_)
  have hI : IntsAre acc.toList (kvs.map (·.1)) := keys_ints (prog := prog) (w := w) _ _ (by rw [Array.length_toList]; exact hacc.1) fun j v e => hacc.2 j v (by rw [← Array.getElem?_toList]; exact e)
  have hl : acc.toList.length = kvs.length := by rw [Array.length_toList]; exact hacc.1
  have F₁ := F.grow hk
  refine wpAny_bind (wpAny_newList ?_ (by rw [hl, sizeLine_eq]; omega))
  dsimp only
  have ho2 : (h'.push (seqObj "list" acc.toList.toArray 0)).get? h'.objs.size = some (seqObj "list" acc.toList.toArray 0) := Heap.get?_push_size _ rfl
  refine wpAny_bind (wpAny_holding (wpAny_call_entry slot_list_sort ⟨_, ho2, rfl⟩ entry_list_sort (list_sort_tree ho2 hI (by omega) fun out ns' a1 a2 a3 => ⟨_, rfl, ?_⟩) (args_list_sort _)))
  have lt : ∀ b o, h'.get? b = some o → (sortedHeap (h'.push (seqObj "list" acc.toList.toArray 0)) h'.objs.size acc.toList out).get? b = some o := by
    intro b o e
    have hb : b < h'.objs.size := Heap.lt_size e
    rw [sortedHeap_old (Nat.ne_of_lt hb) (by rw [Heap.size_push]; exact Nat.lt_succ_of_lt hb)]
    exact Heap.get?_push_of_some _ e
  obtain ⟨c, e⟩ := sortedHeap_at (out := out) ho2
  obtain ⟨g', F', l, n⟩ := F₁.grown (h' := sortedHeap (h'.push (seqObj "list" acc.toList.toArray 0)) h'.objs.size acc.toList out) lt
  exact wpAny_pure ⟨_, rfl, k g' _ tk _ out.toList ns' F' l ⟨_, n _ _ e (get_size_none _), rfl, c, by simp [seqObj]⟩ a1 a2 a3⟩
end
end
section
open PySem PySem.W PyProof.Rows PySem.Calls
set_option maxRecDepth 100000
/-- the members of a set of glyphs, rising -/
def up (ks : List Int) : List Int := ((List.range 13).map Int.ofNat).filter (fun k => ks.contains k)
theorem up_nodup (ks : List Int) : (up ks).Nodup := List.Nodup.sublist List.filter_sublist (by decide)
theorem up_sorted (ks : List Int) : (up ks).Pairwise (· ≤ ·) := List.Pairwise.sublist List.filter_sublist (by decide)
theorem mem_up {ks : List Int} {k : Int} : k ∈ up ks ↔ k ∈ ks ∧ 0 ≤ k ∧ k < 13 := by
  unfold up
  rw [List.mem_filter, List.mem_map, List.contains_iff_mem]
  constructor
  · rintro ⟨⟨n, hn, rfl⟩, h⟩
    rw [List.mem_range] at hn
    exact ⟨h, Int.natCast_nonneg n, by simp; omega⟩
  · rintro ⟨h, h0, h1⟩
    exact ⟨⟨k.toNat, List.mem_range.mpr (by omega), by simp; omega⟩, h⟩
theorem sorted_up {ns ks : List Int} (p : ns.Perm ks) (s : ns.Pairwise (· ≤ ·)) (nd : ks.Nodup) (hk : ∀ k ∈ ks, 0 ≤ k ∧ k < 13) : ns = up ks := by
  refine List.Perm.eq_of_pairwise (le := (· ≤ ·)) (fun a b _ _ h1 h2 => by omega) s (up_sorted ks) (p.trans ?_)
  rw [List.perm_ext_iff_of_nodup nd (up_nodup ks)]
  intro a
  rw [mem_up]
  exact ⟨fun h => ⟨h, hk a h⟩, fun h => h.1⟩

theorem perm_up {ks : List Int} (nd : ks.Nodup) (hk : ∀ k ∈ ks, 0 ≤ k ∧ k < 13) : ks.Perm (up ks) := by
  rw [List.perm_ext_iff_of_nodup nd (up_nodup ks)]
  intro a
  rw [mem_up]
  exact ⟨fun h => ⟨h, hk a h⟩, fun h => h.1⟩
theorem up_len (ks : List Int) : (up ks).length ≤ 13 := Nat.le_trans (List.length_filter_le _ _) (by decide)

def toldD (c : List (Int × Int)) : List Dv := (up (c.map (·.1))).map fun k => .t [k, kdfLook c k 0]

section
variable {w : World} {A : Around} {E : Value → Shared → Prop} {s : Shared} {base g : Heap} {L f x a : Addr} {m mg mb : Str → Option Value} {V : List (Addr × Obj)}
theorem has_of_mem {c : List (Int × Int)} {k : Int} (h : k ∈ c.map (·.1)) : kdfHas c k = true := by
  obtain ⟨p, hp, rfl⟩ := List.mem_map.mp h
  exact List.any_eq_true.mpr ⟨p, hp, by simp⟩

end
end
local macro_rules | `(tactic| walk_at "newTuple") => `(tactic| ((with_reducible show wpAny _ _ (newTuple [Value.int _ _, Value.int _ _]) _ _ _); refine fm_pair (by assumption) ?_; intro _ _ _ _ _ _))
section
open PySem PySem.W PyProof.Rows PySem.Calls
set_option maxRecDepth 100000
section
variable {w : World} {A : Around} {E : Value → Shared → Prop} {s : Shared} {base g : Heap} {L f x a : Addr} {m mg mb : Str → Option Value} {V : List (Addr × Obj)}

theorem no_ifs {f : Expr → Bool → Sem (ForInStep Bool)} {Q : Bool → Shared → Prop} {prog : Program} (h : Q true s) : wpAny (model prog w) A (forIn ([] : List Expr) true f) Q E s := by
  rw [List.forIn_nil]; exact wpAny_pure h
theorem CEnd.mk' {base g1 g2 h2 : Heap} {C : Addr} {K : List (Addr × Obj)} {J : Heap → List (Addr × Obj) → Prop} {V2 : List (Addr × Obj)} {tk2 : Nat} {m3 : Str → Option Value} (F : Fm base g2 C m3 (K ++ V2) h2) (l : Le g1 g2) (j : J g2 V2) :
    CEnd base g1 C K s J { s with heap := h2, toks := tk2 } := ⟨g2, V2, h2, tk2, m3, rfl, F, l, j⟩
theorem RA.snocK {g g' : Heap} {ys : List Value} {D : List Dv} {i : Nat} {d : Dv} {v : Value} (r : RA g ys (D.take i)) (l : Le g g') (e : D[i]? = some d) (rv : RD g' v d) : RA g' (ys ++ [v]) (D.take (i + 1)) := by
  rw [List.take_add_one, e]; exact (r.keeps l).snoc rv
theorem told_spec {c : List (Int × Int)} {Q : Value → Shared → Prop} (D : Md w base mg mb) (F : Fm base g L m V s.heap) (R : Room A 4) (hc : CD g x a) (hd : ID w g a c) (hk : ∀ k ∈ c.map (·.1), 0 ≤ k ∧ k < 13)
    (h : ∀ g' h' tk T, Fm base g' L m V h' → Le g g' → RT g' T (toldD c) → Q (.ref T) { s with heap := h', toks := tk }) :
    wpAny (model pg w) A (call (.ref 61) [.ref x]) Q E s := by
  refine call_fnC (Post := fun g' v => ∃ T, v = .ref T ∧ RT g' T (toldD c)) (binds := [("self", .ref x)]) F (R.le (by omega)) D.lim (D.X _ _ rfl) rfl (codeRec_of D.X rfl) rfl rfl (fun n y hy => by simp at hy; subst hy; exact .inr ⟨rfl, rfl⟩) (by decide) ?_ ?_
  · intro L' h₁ W C tk X F₁
    obtain ⟨o, rfl, ho⟩ := CellsAre.one X
    obtain ⟨g1, F₁, l1, e1⟩ := F₁.freezeV
    have hcell : g1.IsCell (L' + 1) (some (.ref x)) := ⟨o, e1, ho⟩
    iterate 15 walk1
    obtain ⟨lo, kvs, hd', hf⟩ := hd
    have fk := flat_keys hf
    have nd : (c.map (·.1)).Nodup := ID.nodup ⟨lo, kvs, hd', hf⟩
    have ln : kvs.length ≤ 13 := by
      have := (perm_up nd hk).length_eq
      have h2 := up_len (c.map (·.1))
      rw [← fk] at this h2
      simp only [List.length_map] at this
      omega
    refine fm_sortedDict (Room.handled (n := 0) (by walk_at "room")) (by assumption) lo (hd'.keep l1) (by omega) ?_
    intro g2 h2 tk2 T vs ns F₂ l2 hT hI hp hs
    have en : ns = up (c.map (·.1)) := by
      rw [fk] at hp
      exact sorted_up hp hs nd hk
    subst en
    have RLT : RL g2 T ((up (c.map (·.1))).map .i) := ⟨vs, hT, RA.ints (ns := []) hI⟩
    refine pyIter_comp (Src.rl (Room.handled (n := 0) (by walk_at "room")) RLT) (by assumption) (by rw [sizeLine_eq]; have := up_len (c.map (·.1)); simp; omega) (fun i g3 ys V1 => V1 = W ∧ RA g3 ys ((toldD c).take i)) ⟨rfl, RA.nil⟩ ?_ ?_
    · rintro i v g1 ys V1 I oI C D oL h tk m₂ hi ⟨d, e, rd⟩ le ⟨rfl, hy⟩ q hx hl F₃
      rw [List.getElem?_map] at e
      obtain ⟨k, e2, rfl⟩ := Option.map_eq_some_iff.mp e
      obtain ⟨t, rfl⟩ := rd.int_inv
      have hm : k ∈ c.map (·.1) := (mem_up.mp (List.mem_of_getElem? e2)).1
      have hk' := has_of_mem hm
      have hd1 : ID w g1 a c := ID.keeps ⟨lo, kvs, hd', hf⟩ (Le.trans' l1 (Le.trans' l2 le))
      have hc1 := hc.keeps (Le.trans' l1 (Le.trans' l2 le))
      have hcell1 := hcell.keeps (Le.trans' l2 le)
      refine no_ifs ?_
      rw [if_pos rfl]
      iterate 12 walk1
      refine CEnd.mk' (by assumption) (by assumption) ⟨rfl, hy.snocK (by assumption) ?_ (by assumption)⟩
      rw [toldD, List.getElem?_map, e2]; rfl
    · rintro g1 ys V1 C D oL h tk m₂ le ⟨rfl, hy⟩ q F₃
      refine comp_done (by assumption) q F₃ fun g3 h3 l3 F₄ hL => ?_
      have RLD : RL g3 D (toldD c) := ⟨ys, hL, by
        have := hy.keeps l3
        rwa [List.take_of_length_le (by simp [toldD])] at this⟩
      iterate 1 walk1
      refine fm_tupleOf (by assumption) RLD (by have := up_len (c.map (·.1)); simp [toldD]; omega) ?_
      intro g4 h4 T4 F₅ l4 hT4
      skip
      exact End.ret [] (by assumption) (Le.trans' l1 (Le.trans' l2 (Le.trans' le (Le.trans' l3 l4)))) ⟨_, rfl, hT4⟩
  · rintro g' h' tk v F' l ⟨T, rfl, r⟩
    exact h g' h' tk T F' l r
end
end
section
open PySem PySem.W PyProof.Rows PySem.Calls
set_option maxRecDepth 100000
local macro_rules | `(tactic| walk_at "pad") => `(tactic| skip)
/-- what g holds beyond base -/
def olds (base g : Heap) : List (Addr × Obj) := (List.range g.objs.size).filterMap fun b => match base.get? b, g.get? b with | none, some o => some (b, o) | _, _ => none
theorem mem_olds {base g : Heap} {b : Addr} {o : Obj} : (b, o) ∈ olds base g ↔ base.get? b = none ∧ g.get? b = some o := by
  unfold olds
  rw [List.mem_filterMap]
  constructor
  · rintro ⟨b', _, e⟩
    split at e
    · cases e; constructor <;> assumption
    · cases e
  · rintro ⟨h1, h2⟩
    refine ⟨b, List.mem_range.mpr (Heap.lt_size h2), ?_⟩
    rw [h1, h2]
section
variable {w : World} {A : Around} {E : Value → Shared → Prop} {s : Shared} {base g h h' : Heap} {L f x a : Addr} {m m' mg mb : Str → Option Value} {V V' : List (Addr × Obj)}
theorem Fm.news (F : Fm base g L m V h) : News base L h (V ++ olds base g) := by
  rintro ⟨b, o⟩ hp
  rcases List.mem_append.mp hp with q | q
  · refine ⟨F.vol _ q, F.volL _ q, ?_⟩
    cases e : base.get? b with
    | none => rfl
    | some o' => have := F.leb _ _ e; have := F.off _ q; simp_all
  · obtain ⟨q1, q2⟩ := mem_olds.mp q
    refine ⟨F.le _ _ q2, ?_, q1⟩
    rintro rfl
    have := F.offL
    rw [q2] at this; cases this
theorem Fm.of_news (F : Fm base g L m V h) (F' : Fr base L h' m') (N : News base L h' (V' ++ olds base g)) (e : V'.map (·.1) = V.map (·.1)) : Fm base g L m' V' h' where
  F := F'
  le := fun b o q => by
    cases z : base.get? b with
    | none => exact (N (b, o) (List.mem_append_right _ (mem_olds.mpr ⟨z, q⟩))).1
    | some o' => have := F.leb _ _ z; rw [q] at this; cases this; exact F'.keep _ _ z
  leb := F.leb
  offL := F.offL
  vol := fun p hp => (N p (List.mem_append_left _ hp)).1
  off := fun p hp => by
    have : p.1 ∈ V.map (·.1) := e ▸ List.mem_map_of_mem hp
    obtain ⟨q, hq, e2⟩ := List.mem_map.mp this
    rw [← e2]; exact F.off q hq
  nd := by rw [e]; exact F.nd
theorem Room.under_tc {A : Around} {n : Nat} {C : Addr} {rest : List Value} (r : Room A (n + 1)) : Room (A.under (.builtin "type.__call__" ⟨.ref C :: rest, []⟩)) n :=
  ⟨r.handled, by have := r.depth; show A.depth + 1 + n < _; omega,
   by have := r.units; have h : (Code.builtin "type.__call__" ⟨.ref C :: rest, []⟩).cUnits ≤ 8 := (by first | exact Nat.le_of_ble_eq_true rfl | decide); show A.units + _ + 8 * n + 100 < _; omega⟩

/-- how a body's walk ends, the volatile objects turned -/
def EndV (base g : Heap) (L : Addr) (p : Addr × Obj) (s : Shared) (Post : Heap → List (Addr × Obj) → Value → Prop) (fl : Flow) (s' : Shared) : Prop :=
  ∃ g' m' h' tk C V', s' = { s with heap := h', toks := tk } ∧ Fm base g' L m' (C ++ p :: V') h' ∧ Le g g' ∧ Post g' V' (match fl with | .ret v => v | _ => .none)
theorem EndV.ret {g' : Heap} {p : Addr × Obj} {Post : Heap → List (Addr × Obj) → Value → Prop} {v : Value} {tk : Nat} (C : List (Addr × Obj)) (F : Fm base g' L m' (C ++ p :: V') h') (l : Le g g') (q : Post g' V' v) :
    EndV base g L p s Post (.ret v) { s with heap := h', toks := tk } := ⟨g', m', h', tk, C, V', rfl, F, l, q⟩
theorem EndV.next {g' : Heap} {p : Addr × Obj} {Post : Heap → List (Addr × Obj) → Value → Prop} {tk : Nat} (C : List (Addr × Obj)) (F : Fm base g' L m' (C ++ p :: V') h') (l : Le g g') (q : Post g' V' .none) :
    EndV base g L p s Post .next { s with heap := h', toks := tk } := ⟨g', m', h', tk, C, V', rfl, F, l, q⟩

end
section
variable {prog : Program} {w : World} {A : Around} {E : Value → Shared → Prop} {s : Shared} {base g : Heap} {L f : Addr} {m : Str → Option Value} {V : List (Addr × Obj)} {Q : Value → Shared → Prop}
theorem code_fnE {fd : FuncData} {body : List Stmt} {oc : Value} {od : Option Addr} {sl : Array (Option Value)} {args : List Value} {binds : List (Str × Value)} {R : Result → Shared → Prop} {Post : Heap → List (Addr × Obj) → Value → Prop}
    (F : Fm base g L m V s.heap) (Rm : Room A 1) (lim : base.NoLimit) (ho : base.get? f = some ⟨oc, od, .func fd, sl⟩) (hb : fd.body = .stmts body) (hcd : base.CodeRec fd.code fd.qualname)
    (hbind : BindsTo s fd ⟨args, []⟩ binds) (hcell : ∀ x ∈ fd.scope.names, x.2 ≠ .cell) (hloc : ∀ x ∈ binds, fd.scope.names.lookup x.1 = some .local)
    (hbody : ∀ L' h₁ p, Fm base g L' (fun y => binds.reverse.lookup y) (p :: V) h₁ →
      wpAny (model prog w) (A.deeper (callEnv fd L' f)) (execs body (callEnv fd L' f))
        (EndV base g L' p s Post) (fun _ _ => False) { s with heap := h₁, toks := s.toks + binds.length })
    (k : ∀ g' h' tk V' v, Fm base g' L m V' h' → Le g g' → Post g' V' v → R (.ok (.ret v)) { s with heap := h', toks := tk })
    (hco : fd.scope.isCoroutine = false := by rfl) (hgen : fd.scope.isGenerator = false := by rfl) (hk : fd.scope.kind = .function := by rfl) :
    codeAny (model prog w) A (.call (.ref f) ⟨args, []⟩) R s :=
  code_fnV F Rm lim ho hb hcd hbind hcell hloc hbody k hco hgen hk
theorem call_fnE {fd : FuncData} {body : List Stmt} {oc : Value} {od : Option Addr} {sl : Array (Option Value)} {args : List Value} {binds : List (Str × Value)} {Post : Heap → List (Addr × Obj) → Value → Prop}
    (F : Fm base g L m V s.heap) (Rm : Room A 1) (lim : base.NoLimit) (ho : base.get? f = some ⟨oc, od, .func fd, sl⟩) (hb : fd.body = .stmts body) (hcd : base.CodeRec fd.code fd.qualname)
    (hbind : BindsTo s fd ⟨args, []⟩ binds) (hcell : ∀ x ∈ fd.scope.names, x.2 ≠ .cell) (hloc : ∀ x ∈ binds, fd.scope.names.lookup x.1 = some .local)
    (hbody : ∀ L' h₁ p, Fm base g L' (fun y => binds.reverse.lookup y) (p :: V) h₁ →
      wpAny (model prog w) (A.deeper (callEnv fd L' f)) (execs body (callEnv fd L' f))
        (EndV base g L' p s Post) (fun _ _ => False) { s with heap := h₁, toks := s.toks + binds.length })
    (k : ∀ g' h' tk V' v, Fm base g' L m V' h' → Le g g' → Post g' V' v → Q v { s with heap := h', toks := tk })
    (hco : fd.scope.isCoroutine = false := by rfl) (hgen : fd.scope.isGenerator = false := by rfl) (hk : fd.scope.kind = .function := by rfl) :
    wpAny (model prog w) A (call (.ref f) args) Q E s :=
  call_fnV F Rm lim ho hb hcd hbind hcell hloc hbody k hco hgen hk
end
section
variable {w : World} {A : Around} {E : Value → Shared → Prop} {s : Shared} {base g h h' : Heap} {L f x a : Addr} {m m' mg mb : Str → Option Value} {V V' : List (Addr × Obj)}

theorem set_classes {p : Addr × Obj} {x dx : Addr} {v : Value} {Q : Unit → Shared → Prop} (D : Md w base mg mb) (F : Fm base g L m (p :: (x, instObj 64 dx) :: (dx, dictOf [] 0) :: V) s.heap)
    (h : ∀ h' hs t n, Fm base g L m (p :: (x, instObj 64 dx) :: (dx, dictOf [⟨hs, .str "classes" t, v⟩] n) :: V) h' → Q () { s with heap := h', toks := s.toks + 2 }) :
    wpAny (model pg w) A (setAttr (.ref x) "classes" v) Q E s := by
  have N := F.news
  have hne : dx ≠ x := by
    have := F.nd
    intro e
    simp [e] at this
  have hx : ∀ q ∈ V ++ olds base g, q.1 ≠ dx := by
    rintro ⟨b, o⟩ hq rfl
    rcases List.mem_append.mp hq with q | q
    · have := F.nd
      simp only [List.map_cons, List.nodup_cons, List.mem_cons, not_or] at this
      exact this.2.2.2.1 (List.mem_map.mpr ⟨_, q, rfl⟩)
    · have := F.off (b, dictOf [] 0) (by simp)
      rw [(mem_olds.mp q).2] at this; cases this
  have hp : p.1 ≠ dx := by
    have := F.nd
    simp only [List.map_cons, List.nodup_cons, List.mem_cons, not_or] at this
    exact this.2.1.2.1
  refine set_dict (K := Kf w.params) (C := 64) (es := []) (n := 0) F.F D.X N (.of_news N (x := x) (dx := dx) (sl := #[]) (by simp) (by simp)) rfl rfl rfl rfl rfl rfl rfl (.tail hp (.tail (Ne.symm hne) (.head hx))) (Nat.le_of_ble_eq_true rfl) ?_
  intro h' F' N'
  exact h h' _ _ _ (F.of_news (V' := p :: (x, instObj 64 dx) :: (dx, _) :: V) F' N' rfl)
local macro_rules | `(tactic| walk_at "setAttr") => `(tactic| (refine set_classes (by assumption) (by assumption) ?_; intro _ _ _ _ _))
theorem mk_spec {Q : Value → Shared → Prop} (D : Md w base mg mb) (F : Fm base g L m V s.heap) (R : Room A 4)
    (h : ∀ g' h' tk x, Fm base g' L m V h' → Le g g' → CD g' x a → Q (.ref x) { s with heap := h', toks := tk }) :
    wpAny (model pg w) A (call (.ref 64) [.ref a]) Q E s := by
  refine wpAny_call ?_
  obtain ⟨hh, gg, dd, tt, os⟩ := s
  have X := D.X.keeps F.F.keep
  refine make_core (makes_of X rfl) (looks_findIn X (name := "__init__") (r := some (.ref 35)) rfl) (fun self => bind_fn X self rfl) (.inl rfl) ?_
  have F1 := (F.allocV emptyDict rfl).allocV (instObj 64 hh.objs.size) rfl
  rw [Heap.size_push] at F1
  have R1 := Room.under_tc (n := 3) (C := 64) (rest := [.ref a]) R
  refine code_fnE (Post := fun g' V' v => v = .none ∧ g' = g ∧ ∃ hs t n, V' = (hh.objs.size + 1, instObj 64 hh.objs.size) :: (hh.objs.size, dictOf [⟨hs, .str "classes" t, .ref a⟩] n) :: V) (binds := [("self", .ref (hh.objs.size + 1)), ("classes", .ref a)]) F1 (R1.le (by omega)) D.lim (D.X _ _ rfl) rfl (codeRec_of D.X rfl) (.of_eq rfl) (by decide) (by simp; decide) ?_ ?_
  · intro L' h₁ p F₁
    iterate 7 walk1
    exact EndV.next [] (by assumption) Le.rfl' ⟨rfl, rfl, _, _, _, rfl⟩
  · rintro g' h' tk V' v F' l ⟨rfl, rfl, hs, t, n, rfl⟩
    refine ⟨rfl, ?_⟩
    obtain ⟨g2, F2, l2, e2⟩ := F'.freezeV
    obtain ⟨g3, F3, l3, e3⟩ := F2.freezeV
    exact h g3 h' tk _ F3 (Le.trans' l2 l3) ⟨_, hs, t, n, l3 _ _ e2, e3⟩
end
end
section
open PySem PySem.W PyProof.Rows PySem.Calls
set_option maxRecDepth 100000
/-- volatile dicts: ints to ints -/
def IO (w : World) (o : Obj) (c : List (Int × Int)) : Prop := ∃ kvs, o.IsDictOf (intKind pg w) kvs ∧ PyProof.V.FlatPairs PyData.int kvs (kdfD c)
/-- ints to pairs -/
def RO (w : World) (g : Heap) (o : Obj) (ks : List Int) (f : Int → List Int) : Prop := ∃ kvs, o.IsDictOf (intKind pg w) kvs ∧ kvs.map (·.1) = ks ∧ ∀ p ∈ kvs, RD g p.2 (.t (f p.1))
/-- pairs to their places -/
def NO (w : World) (g : Heap) (o : Obj) (kept : List (List Int)) : Prop :=
  ∃ (xs : List (List Int × Addr × Value)) (es : Array DictEntry) (ep : Nat), o.ExactDict ∧ o.data = .dict es ep ∧ es.toList = xs.map (entryOfKey (tupleKind (intKind pg w))) ∧ (∀ x ∈ xs, IsTupleKey (intKind pg w) g x.1 x.2.1) ∧ (xs.map (·.1)).Nodup ∧ xs.map (·.1) = kept ∧ ∀ (i : Nat) x, xs[i]? = some x → ∃ t, x.2.2 = .int i t
def putI (c : List (Int × Int)) (k v : Int) : List (Int × Int) := if c.any (fun p => p.1 = k) then c.map (fun p => if p.1 = k then (p.1, v) else p) else c ++ [(k, v)]
def putK (ks : List Int) (k : Int) : List Int := if k ∈ ks then ks else ks ++ [k]
section
variable {w : World} {A : Around} {E : Value → Shared → Prop} {s : Shared} {base g g' h h' : Heap} {L f x a d : Addr} {m m' mg mb : Str → Option Value} {V V' V1 V2 : List (Addr × Obj)} {o : Obj} {env : Env}

theorem itk_keeps {ks : List Int} (i : IsTupleKey (intKind pg w) g ks a) (l : Le g g') : IsTupleKey (intKind pg w) g' ks a := let ⟨o, its, n, e, r⟩ := i; ⟨o, its, n, l _ _ e, r⟩
theorem RO.keeps {ks : List Int} {f : Int → List Int} (r : RO w g o ks f) (l : Le g g') : RO w g' o ks f := let ⟨kvs, a, b, c⟩ := r; ⟨kvs, a, b, fun p hp => (c p hp).keeps l⟩
theorem NO.keeps {kept : List (List Int)} (r : NO w g o kept) (l : Le g g') : NO w g' o kept := let ⟨xs, es, ep, a, b, c, d, e⟩ := r; ⟨xs, es, ep, a, b, c, fun x hx => itk_keeps (d x hx) l, e⟩
theorem itemsAre_ints : ∀ {vs : List Value} {ns : List Int}, IntsAre vs ns → PySem.ItemsAre (intKind pg w) ns vs
  | _, _, .nil => .nil
  | _, _, .cons n t r => .cons (intKind_is _ _ _ _) (itemsAre_ints r)
theorem RD.key {v : Value} {k : List Int} (r : RD g v (.t k)) : ∃ a, v = .ref a ∧ IsTupleKey (intKind pg w) g k a := by
  obtain ⟨a, vs, rfl, ⟨o, e, hc, n, hd⟩, hi⟩ := r.tup_inv
  exact ⟨a, rfl, o, _, n, e, hc, hd, itemsAre_ints hi⟩

theorem NO.dict {kept : List (List Int)} (r : NO w g o kept) (l : Le g h) (ho : h.get? d = some o) :
    ∃ xs, h.DictOfH (tupleKind (intKind pg w)) d xs ∧ xs.map (·.1) = kept ∧ (∀ (i : Nat) x, xs[i]? = some x → ∃ t, x.2.2 = .int i t) ∧ (∀ x ∈ xs, IsTupleKey (intKind pg w) g x.1 x.2.1) :=
  let ⟨xs, es, ep, a, b, c, e, f, q, r⟩ := r; ⟨xs, ⟨o, es, ep, ho, a, b, c, fun x hx => itk_keeps (e x hx) l, f⟩, q, r, e⟩
theorem atKey_isSome {xs : List (List Int × Addr × Value)} {k : List Int} : (atKey xs k).isSome = decide (k ∈ xs.map (·.1)) := by
  unfold atKey
  rw [Option.isSome_map, Bool.eq_iff_iff, List.find?_isSome]
  simp only [List.mem_map, decide_eq_true_eq]
theorem no_room (R : Room A 0) : (tupleKind (intKind pg w)).room A.in1 := by
  refine tupleKind_room_in1 ?_
  have := R.units; omega
theorem no_notin {Q : Value → Shared → Prop} {kept : List (List Int)} {k : List Int} {v : Value} (R : Room A 0) (F : Fm base g L m V s.heap) (hV : (d, o) ∈ V) (lo : (d == sysModules) = false) (n : NO w g o kept) (rk : RD g v (.t k))
    (h : ∀ tk, Q (.bool (!decide (k ∈ kept))) { s with toks := tk }) : wpAny (model pg w) A (compareOp .NotIn v (.ref d)) Q E s := by
  obtain ⟨xs, hd, e, -, -⟩ := n.dict F.le (F.vol _ hV)
  obtain ⟨a, rfl, hk⟩ := rk.key (w := w)
  refine wpAny_notIn_heap (knd := tupleKind (intKind pg w)) (no_room R) (itk_keeps hk F.le) lo hd ?_
  rw [atKey_isSome, e]
  exact h _
theorem no_item {Q : Value → Shared → Prop} {value slice : PySem.Expr} {kept : List (List Int)} {k : List Int} {v : Value} (R : Room A 0) (F : Fm base g L m V s.heap) (hV : (d, o) ∈ V) (n : NO w g o kept) (rk : RD g v (.t k)) (hk : k ∈ kept)
    (h : ∀ tk t, Q (.int (kept.idxOf k) t) { s with toks := tk })
    (hs : ∀ a, subscripted slice false (.ref d) (.ref a) = operate [.ref d, .ref a] (getItem (.ref d) (.ref a)) := by intro _; with_unfolding_all rfl) :
    wpAny (model pg w) A (subscriptTail value slice (.ref d) v) Q E s := by
  obtain ⟨xs, hd, e, hi, -⟩ := n.dict F.le (F.vol _ hV)
  obtain ⟨a, rfl, hk'⟩ := rk.key (w := w)
  have nd : (xs.map (·.1)).Nodup := let ⟨_, _, _, _, _, _, _, _, nd⟩ := hd; nd
  have lt : kept.idxOf k < xs.length := by rw [← List.length_map (f := (·.1)), e]; exact List.idxOf_lt_length_of_mem hk
  have hx := List.getElem?_eq_getElem lt
  obtain ⟨t, ht⟩ := hi _ _ hx
  have ek : (xs[kept.idxOf k]).1 = k := by
    have h1 : (xs.map (·.1))[kept.idxOf k]? = some (xs[kept.idxOf k]).1 := by rw [List.getElem?_map, hx]; rfl
    rw [e, List.getElem?_eq_getElem (List.idxOf_lt_length_of_mem hk), List.getElem_idxOf] at h1
    exact (Option.some.inj h1).symm
  have hp : atKey xs k = some (xs[kept.idxOf k]).2 := atKey_of_get nd (i := kept.idxOf k) (by rw [hx]; exact congrArg some (Prod.ext ek rfl))
  refine tail_any hd.typeIs slot_dict_getitem.lookup (wpAny_getItem_heap (knd := tupleKind (intKind pg w)) (no_room R) (itk_keeps hk' F.le) hd hp ?_) (hs a)
  rw [ht]
  exact h _ _
theorem no_of {kept : List (List Int)} {k : List Int} {xs : List (List Int × Addr × Value)} {t : Tok} (e : xs.map (·.1) = kept) (hi : ∀ (i : Nat) x, xs[i]? = some x → ∃ t, x.2.2 = .int i t) (hkeys : ∀ x ∈ xs, IsTupleKey (intKind pg w) g x.1 x.2.1)
    (hk : IsTupleKey (intKind pg w) g k a) (hn : k ∉ kept) (hd : h'.DictOfH (tupleKind (intKind pg w)) d (storedH xs k a (.int kept.length t))) : ∃ o', h'.get? d = some o' ∧ NO w g o' (kept ++ [k]) := by
  have hno : atKey xs k = none := by
    have := atKey_isSome (xs := xs) (k := k)
    rw [e, decide_eq_false hn] at this
    simpa using this
  rw [storedH_new hno] at hd
  obtain ⟨o', es, ep, ho, a1, a2, a3, a4, a5⟩ := hd
  refine ⟨o', ho, _, es, ep, a1, a2, a3, ?_, a5, by simp [e], ?_⟩
  · intro x hx
    rcases List.mem_append.mp hx with q | q
    · exact hkeys x q
    · rw [List.mem_singleton.mp q]; exact hk
  · intro i x hx
    rw [List.getElem?_append] at hx
    split at hx
    · exact hi i x hx
    · rename_i hlt
      have : i - xs.length = 0 := by
        cases q : i - xs.length with
        | zero => rfl
        | succ j => rw [q] at hx; simp at hx
      rw [this] at hx
      simp at hx
      subst hx
      have : i = xs.length := by omega
      have e2 := congrArg List.length e
      rw [List.length_map] at e2
      exact ⟨t, by dsimp only; rw [this, e2]⟩
theorem no_set {Q : Unit → Shared → Prop} {kept : List (List Int)} {k : List Int} {v : Value} {t : Tok} (R : Room A 0) (F : Fm base g L m (V1 ++ (d, o) :: V2) s.heap) (n : NO w g o kept) (rk : RD g v (.t k)) (hn : k ∉ kept) (hz : kept.length ≤ 100)
    (hQ : ∀ h' o' tk, NO w g o' (kept ++ [k]) → Fm base g L m (V1 ++ (d, o') :: V2) h' → Q () { s with heap := h', toks := tk }) : wpAny (model pg w) A (setItem (.ref d) v (.int kept.length t)) Q E s := by
  obtain ⟨xs, hd, e, hi, hkeys⟩ := n.dict F.le (F.vol (d, o) (by simp))
  obtain ⟨a, rfl, hk⟩ := rk.key (w := w)
  have el := congrArg List.length e
  rw [List.length_map] at el
  refine wpAny_setItem_heap (hsz := by rw [sizeLine_eq]; omega) (knd := tupleKind (intKind pg w)) (no_room R) (itk_keeps hk F.le) hd fun h' hd' hs => ?_
  obtain ⟨o', ho', n'⟩ := no_of e hi hkeys hk hn hd'
  exact hQ h' o' _ n' (F.upd hs.extBut ho')

theorem ed_nil (w : World) : (emptyDict).IsDictOf (intKind pg w) [] := by
  obtain ⟨o, ho, hd⟩ := Heap.dictOf_iff.mp (Heap.DictOf.new (knd := intKind pg w) { objs := #[] })
  rw [Heap.get?_push_size _ rfl] at ho
  obtain rfl := Option.some.inj ho
  exact hd
theorem IO.nil : IO w emptyDict [] := ⟨[], ed_nil w, .nil⟩
theorem RO.nil {f : Int → List Int} : RO w g emptyDict [] f := ⟨[], ed_nil w, rfl, fun _ h => nomatch h⟩
theorem lo_new (D : Md w base mg mb) (F : Fm base g L m V h) : (h.objs.size == sysModules) = false := by
  have := modules_low D.lim
  have h1 := F.F.above
  have h2 := F.lt
  exact beq_eq_false_iff_ne.mpr (Nat.ne_of_gt (Nat.lt_of_lt_of_le this (Nat.le_trans h1 (Nat.le_of_lt h2))))
theorem md_in {h : Heap} {w : World} {base g : Heap} {L : Addr} {m mg mb : Str → Option Value} {V : List (Addr × Obj)} (D : Md w base mg mb) (F : Fm base g L m V h) : (Kf w.params).In h := D.X.keeps F.F.keep
theorem fm_dict {Q : Value → Shared → Prop} {pos : Pos} (D : Md w base mg mb) (F : Fm base g L m V s.heap)
    (k : ∀ h' d, (d == sysModules) = false → Fm base g L m ((d, emptyDict) :: V) h' → Q (.ref d) { s with heap := h' }) : wpAny (model pg w) A (eval (.Dict [] [] pos) env) Q E s :=
  wpAny_Dict_empty (k _ _ (lo_new D F) (F.allocV emptyDict rfl))
theorem fm_setI {Q : Unit → Shared → Prop} {kvs : List (Int × Value)} {k : Int} {t : Tok} {v : Value} (F : Fm base g L m (V1 ++ (d, o) :: V2) s.heap) (hd : o.IsDictOf (intKind pg w) kvs) (hz : kvs.length ≤ 100)
    (hQ : ∀ h' o' tk, o'.IsDictOf (intKind pg w) (stored kvs k v) → Fm base g L m (V1 ++ (d, o') :: V2) h' → Q () { s with heap := h', toks := tk }) : wpAny (model pg w) A (setItem (.ref d) (.int k t) v) Q E s := by
  refine wpAny_setItem_pairs (hsz := by rw [sizeLine_eq]; omega) (intKind_is _ _ _ _) (Heap.dictOf_iff.mpr ⟨o, F.vol (d, o) (by simp), hd⟩) fun h' hd' hs => ?_
  obtain ⟨o', ho', hd''⟩ := Heap.dictOf_iff.mp hd'
  exact hQ h' o' _ hd'' (F.upd hs.extBut ho')
theorem io_set {Q : Unit → Shared → Prop} {c : List (Int × Int)} {k n : Int} {t u : Tok} (F : Fm base g L m (V1 ++ (d, o) :: V2) s.heap) (hd : IO w o c) (hz : c.length ≤ 100)
    (hQ : ∀ h' o' tk, IO w o' (putI c k n) → Fm base g L m (V1 ++ (d, o') :: V2) h' → Q () { s with heap := h', toks := tk }) : wpAny (model pg w) A (setItem (.ref d) (.int k t) (.int n u)) Q E s := by
  obtain ⟨kvs, hd, hf⟩ := hd
  have el := congrArg List.length (flat_keys hf)
  rw [List.length_map, List.length_map] at el
  refine fm_setI F hd (by omega) fun h' o' tk hd' F' => hQ h' o' tk ⟨_, hd', ?_⟩ F'
  have := PyProof.V.FlatPairs.stored PyProof.V.same_int hf k (PyProof.V.Flat.int n u)
  have e : PyProof.V.putD (PyData.int k) (PyData.int n) (kdfD c) = kdfD (putI c k n) := by
    have ha : ((kdfD c).any fun p => Spec.same p.1 (PyData.int k)) = c.any fun p => decide (p.1 = k) := by
      simp only [kdfD, List.any_map, Function.comp_def, PyProof.V.same_int]
    unfold PyProof.V.putD putI
    rw [ha]
    split
    · simp only [kdfD, List.map_map]
      refine List.map_congr_left fun p _ => ?_
      simp only [Function.comp_def, PyProof.V.same_int]
      by_cases hp : p.1 = k <;> simp [hp]
    · simp [kdfD]
  rwa [e] at this
theorem ro_set {Q : Unit → Shared → Prop} {ks : List Int} {f : Int → List Int} {k : Int} {t : Tok} {v : Value} (F : Fm base g L m (V1 ++ (d, o) :: V2) s.heap) (hd : RO w g o ks f) (hz : ks.length ≤ 100) (hv : RD g v (.t (f k)))
    (hQ : ∀ h' o' tk, RO w g o' (putK ks k) f → Fm base g L m (V1 ++ (d, o') :: V2) h' → Q () { s with heap := h', toks := tk }) : wpAny (model pg w) A (setItem (.ref d) (.int k t) v) Q E s := by
  obtain ⟨kvs, hd, rfl, hf⟩ := hd
  rw [List.length_map] at hz
  refine fm_setI F hd (by omega) fun h' o' tk hd' F' => hQ h' o' tk ⟨_, hd', ?_, ?_⟩ F'
  · unfold stored putK
    have e1 : (kvs.any fun kv => decide (kv.1 = k)) = decide (k ∈ kvs.map (·.1)) := by
      rw [Bool.eq_iff_iff]; simp
    rw [e1]
    by_cases hm : k ∈ kvs.map (·.1)
    · rw [if_pos (decide_eq_true hm), if_pos hm, List.map_map]
      refine List.map_congr_left fun p _ => ?_
      dsimp only [Function.comp]
      split <;> rfl
    · rw [if_neg (by simpa using hm), if_neg hm, List.map_append]; rfl
  · intro p hp
    unfold stored at hp
    split at hp
    · obtain ⟨q, hq, rfl⟩ := List.mem_map.mp hp
      split
      · rename_i e; dsimp only; rw [e]; exact hv
      · exact hf q hq
    · rcases List.mem_append.mp hp with q | q
      · exact hf p q
      · rw [List.mem_singleton.mp q]; exact hv
end
end
local macro_rules | `(tactic| walk_at "callWith ref") => `(tactic| ((with_reducible show wpAny _ _ (callWith _ (Value.ref _) _ (backTo _ (starEach [] _)) []) _ _ _); refine callWith_K0 (K := Kf _) (md_in (by assumption) (by assumption)) (by with_unfolding_all rfl) ?_))
local macro_rules | `(tactic| walk_at "And") => `(tactic| (refine And.intro (md_in (by assumption) (by assumption)) ?_))
section
open PySem PySem.W PyProof.Rows PySem.Calls
set_option maxRecDepth 100000
set_option maxHeartbeats 4000000
local macro_rules | `(tactic| walk_at "pad") => `(tactic| skip)
/-- a list that turns -/
def LO (g : Heap) (o : Obj) (ds : List Dv) : Prop := ∃ (vs : List Value) (n : Nat), o = { cls := .type "list", data := .seq vs.toArray n } ∧ RA g vs ds
def numStep (f : Int → List Int) (st : List (List Int) × List (Int × Int)) (k : Int) : List (List Int) × List (Int × Int) :=
  let kept := if f k ∈ st.1 then st.1 else st.1 ++ [f k]
  let n := kept.idxOf (f k)
  (kept, if n ≠ 0 then st.2 ++ [(k, (n : Int))] else st.2)
def num (f : Int → List Int) (p0 : List Int) (ks : List Int) : List (List Int) × List (Int × Int) := ks.foldl (numStep f) ([p0], [])
theorem num_snoc (f : Int → List Int) (p0 : List Int) (ks : List Int) (k : Int) : num f p0 (ks ++ [k]) = numStep f (num f p0 ks) k := by
  unfold num; rw [List.foldl_append]; rfl
theorem num_len (f : Int → List Int) (p0 : List Int) (ks : List Int) : (num f p0 ks).1.length ≤ ks.length + 1 ∧ (num f p0 ks).2.length ≤ ks.length ∧ ∀ p ∈ (num f p0 ks).2, p.1 ∈ ks := by
  suffices H : ∀ l : List Int, (num f p0 l.reverse).1.length ≤ l.length + 1 ∧ (num f p0 l.reverse).2.length ≤ l.length ∧ ∀ p ∈ (num f p0 l.reverse).2, p.1 ∈ l by
    have := H ks.reverse
    simpa using this
  intro l
  induction l with
  | nil => simp [num]
  | cons k l ih =>
    obtain ⟨a, b, c⟩ := ih
    rw [List.reverse_cons, num_snoc]
    unfold numStep
    dsimp only
    generalize hK : (if f k ∈ (num f p0 l.reverse).1 then (num f p0 l.reverse).1 else (num f p0 l.reverse).1 ++ [f k]) = K
    refine ⟨?_, ?_, ?_⟩
    · rw [← hK]; split <;> simp <;> omega
    · split <;> simp <;> omega
    · intro p hp
      split at hp
      · rcases List.mem_append.mp hp with q | q
        · exact .tail _ (c p q)
        · rw [List.mem_singleton.mp q]; exact .head _
      · exact .tail _ (c p hp)
theorem putI_new {c : List (Int × Int)} {k v : Int} (h : ∀ p ∈ c, p.1 ≠ k) : putI c k v = c ++ [(k, v)] := by
  unfold putI
  rw [if_neg]
  simp only [List.any_eq_true, decide_eq_true_eq, not_exists, not_and]
  exact h
section
variable {w : World} {A : Around} {E : Value → Shared → Prop} {s : Shared} {base g g' h h' : Heap} {L f x a d : Addr} {m m' mg mb : Str → Option Value} {V V' V1 V2 : List (Addr × Obj)} {o : Obj} {env : Env}

theorem LO.keeps {ds : List Dv} (r : LO g o ds) (l : Le g g') : LO g' o ds := let ⟨vs, n, e, q⟩ := r; ⟨vs, n, e, q.keeps l⟩
theorem lo_meth {ds : List Dv} {pl : Sem Bool} {Q : Value × List Value → Shared → Prop} (F : Fm base g L m V s.heap) (hV : (d, o) ∈ V) (r : LO g o ds) (h : Q (.builtin "list.append", [.ref d]) s) :
    wpAny (model pg w) A (getMethod (.ref d) "append" pl) Q E s := by
  obtain ⟨vs, n, rfl, q⟩ := r
  exact getMethod_list_append (F.vol _ hV) rfl rfl h
theorem lo_append {ds : List Dv} {v : Value} {dv : Dv} {Q : Value → Shared → Prop} (F : Fm base g L m (V1 ++ (d, o) :: V2) s.heap) (r : LO g o ds) (rv : RD g v dv) (hz : ds.length ≤ 1000)
    (h : ∀ h' o', LO g o' (ds ++ [dv]) → Fm base g L m (V1 ++ (d, o') :: V2) h' → Q .none { s with heap := h' }) : wpAny (model pg w) A (call (.builtin "list.append") [.ref d, v]) Q E s := by
  obtain ⟨vs, n, rfl, q⟩ := r
  have hl := q.len
  refine append_at (its := vs.toArray) (n := n) (hsz := by rw [List.size_toArray, sizeLine_eq]; omega) (F.vol (d, { cls := .type "list", data := .seq vs.toArray n }) (by simp)) fun h' hs ho => ?_
  exact h h' _ ⟨vs ++ [v], n + 1, by simp, q.snoc rv⟩ (F.upd hs.extBut ho)
theorem lo_len {ds : List Dv} {Q : Value → Shared → Prop} (F : Fm base g L m V s.heap) (hV : (d, o) ∈ V) (r : LO g o ds) (hz : ds.length ≤ 1000) (h : ∀ tk t, Q (.int ds.length t) { s with toks := tk }) :
    wpAny (model pg w) A (call (.builtin "len") [.ref d]) Q E s := by
  obtain ⟨vs, n, rfl, q⟩ := r
  have hl := q.len
  have := h (s.toks + 1 + 1) (s.toks + 1)
  rw [← hl] at this
  exact call_len_list (items := vs.toArray) ⟨_, F.vol _ hV, rfl, n, rfl⟩ (by rw [List.size_toArray]; omega) (by simpa using this)
theorem lo_new1 {v : Value} {dv : Dv} {Q : Value → Shared → Prop} (F : Fm base g L m V s.heap) (rv : RD g v dv) (k : ∀ h' T o, LO g o [dv] → Fm base g L m ((T, o) :: V) h' → Q (.ref T) { s with heap := h' }) :
    wpAny (model pg w) A (newList [v]) Q E s :=
  fm_listV F fun h' T F' => k h' T _ ⟨[v], 0, rfl, RA.cons rv .nil⟩ F'

theorem NO.one {k : List Int} {pv : Value} {t : Tok} (R : Room A 0) (F : Fm base g L m ((d, emptyDict) :: V) s.heap) (rk : RD g pv (.t k)) {Q : Unit → Shared → Prop}
    (hQ : ∀ h' o' tk, NO w g o' [k] → Fm base g L m ((d, o') :: V) h' → Q () { s with heap := h', toks := tk }) : wpAny (model pg w) A (dictSet d pv (.int 0 t)) Q E s := by
  obtain ⟨a, rfl, hk⟩ := rk.key (w := w)
  refine wpAny_dictSet_heap (hsz := by simp) (knd := tupleKind (intKind pg w)) (xs := []) (by have := R.units; show A.units < cLine; omega) (itk_keeps hk F.le) ⟨emptyDict, #[], 0, F.vol _ (.head _), ⟨rfl, rfl, rfl⟩, rfl, rfl, (fun _ h => by simp at h), List.nodup_nil⟩ fun h' hd' hs => ?_
  obtain ⟨o', ho', n'⟩ := no_of (kept := []) (t := t) (xs := []) rfl (fun _ _ h => by simp at h) (fun _ h => by simp at h) hk (by simp) hd'
  exact hQ h' o' _ n' (Fm.upd (V1 := []) F hs.extBut ho')
def Key1 (base g : Heap) (L : Addr) (m : Str → Option Value) (W : List (Addr × Obj)) (s : Shared) (p0 : List Int) (kv vv : Value) (s₂ : Shared) : Prop :=
  ∃ h2 tk t, s₂ = { s with heap := h2, toks := tk } ∧ vv = .int 0 t ∧ RD g kv (.t p0) ∧ Fm base g L m W h2
theorem fm_dict1 {ke ve : PySem.Expr} {p0 : List Int} {pos : Pos} {Q : Value → Shared → Prop} (D : Md w base mg mb) (R : Room A 0) (F : Fm base g L m V s.heap)
    (h : ∀ h' d, Fm base g L m ((d, emptyDict) :: V) h' → wpAny (model pg w) A (eval ke env) (fun kv s₁ => wpAny (model pg w) A (eval ve env) (fun vv s₂ => Key1 base g L m ((d, emptyDict) :: V) s p0 kv vv s₂) E s₁) E { s with heap := h' })
    (k : ∀ h' d o tk, (d == sysModules) = false → NO w g o [p0] → Fm base g L m ((d, o) :: V) h' → Q (.ref d) { s with heap := h', toks := tk }) :
    wpAny (model pg w) A (eval (.Dict [some ke] [ve] pos) env) Q E s := by
  refine wpAny_Dict_any rfl rfl (by simp) (by simp) ?_
  show wpAny _ _ (evalPairs [(eval ke env, do let x ← eval ve env; standAt pos; pure x)]) _ _ _
  refine evalPairs_cons (wpAny_mono (h _ _ (F.allocV emptyDict rfl)) (fun kv s₁ h₁ => wpAny_bind (wpAny_mono h₁ (fun vv s₂ h₂ => wpAny_bind (wpAny_standAt (wpAny_pure (evalPairs_nil ?_)))) fun _ _ e => e)) fun _ _ e => e)
  obtain ⟨h2, tk, t, rfl, rfl, rk, F2⟩ := h₂
  unfold storeAll
  rw [List.forIn_cons]
  refine wpAny_bind (wpAny_bind (NO.one R F2 rk fun h' o' tk' n F' => wpAny_pure ?_))
  dsimp only
  rw [List.forIn_nil]
  exact wpAny_pure (k h' _ o' tk' (lo_new D F) n F')

theorem ro_item {Q : Value → Shared → Prop} {value slice : PySem.Expr} {ks : List Int} {f : Int → List Int} {k : Int} {t : Tok} (le : Le g s.heap) (hr : g.get? d = some o) (r : RO w g o ks f) (hk : k ∈ ks)
    (h : ∀ v, RD g v (.t (f k)) → Q v { s with toks := s.toks + 1 })
    (hs : subscripted slice false (.ref d) (.int k t) = operate [.ref d, .int k t] (getItem (.ref d) (.int k t)) := by with_unfolding_all rfl) :
    wpAny (model pg w) A (subscriptTail value slice (.ref d) (.int k t)) Q E s := by
  obtain ⟨kvs, hd, rfl, hf⟩ := r
  obtain ⟨p, hp, rfl⟩ := List.mem_map.mp hk
  have nd : (kvs.map (·.1)).Nodup := let ⟨_, _, _, _, _, _, nd⟩ := hd; nd
  have hD : s.heap.DictOf (intKind pg w) d kvs := Heap.dictOf_iff.mpr ⟨o, le _ _ hr, hd⟩
  refine tail_any hD.typeIs slot_dict_getitem.lookup (wpAny_getItem_of (intKind_is _ _ _ _) hD.mapOf ?_ (h p.2 (hf p hp))) hs
  unfold valueAt
  have : kvs.find? (fun kv => decide (kv.1 = p.1)) = some p := by
    clear hD hd hf hk hr h hs
    induction kvs with
    | nil => cases hp
    | cons q kvs ih =>
      rw [List.find?_cons]
      by_cases e : q.1 = p.1
      · rw [decide_eq_true e]
        rcases List.mem_cons.mp hp with rfl | hm
        · rfl
        · rw [List.map_cons, List.nodup_cons] at nd
          exact absurd (e ▸ List.mem_map_of_mem hm) nd.1
      · rw [decide_eq_false e]
        rcases List.mem_cons.mp hp with rfl | hm
        · exact absurd rfl e
        · rw [List.map_cons, List.nodup_cons] at nd
          exact ih hm nd.2
  rw [this]; rfl

local macro_rules | `(tactic| walk_at "newList") => `(tactic| ((with_reducible show wpAny _ _ (newList [_]) _ _ _); refine lo_new1 (by assumption) (by assumption) ?_; intro _ _ _ _ _))
local macro_rules | `(tactic| walk_at "eval Dict nil nil") => `(tactic| (refine fm_dict (by assumption) (by assumption) ?_; intro _ _ _ _))

theorem rows_spec {r : Addr} {pv : Value} {p0 : List Int} {ks : List Int} {fr : Int → List Int} {Q : Value → Shared → Prop} (D : Md w base mg mb) (F : Fm base g L m V s.heap) (R : Room A 8) (lo : (r == sysModules) = false) (hr : g.get? r = some o) (hd : RO w g o ks fr) (hp : RD g pv (.t p0))
    (hk : ∀ k ∈ ks, 0 ≤ k ∧ k < 13)
    (h : ∀ g' h' tk T x a l, Fm base g' L m V h' → Le g g' → g'.IsTuple T #[.ref x, .ref l] → CD g' x a → ID w g' a (num fr p0 (up ks)).2 → RL g' l ((num fr p0 (up ks)).1.map .t) → Q (.ref T) { s with heap := h', toks := tk }) :
    wpAny (model pg w) A (call (.ref 75) [.ref r, pv]) Q E s := by
  refine call_fn (Post := fun g' v => ∃ T x a l, v = .ref T ∧ g'.IsTuple T #[.ref x, .ref l] ∧ CD g' x a ∧ ID w g' a (num fr p0 (up ks)).2 ∧ RL g' l ((num fr p0 (up ks)).1.map .t)) (binds := [("rows", .ref r), ("plain", pv)]) F (R.le (by omega)) D.lim (D.X _ _ rfl) rfl (codeRec_of D.X rfl) (.of_eq rfl) (by decide) (by simp; decide) ?_ ?_
  · intro L' h₁ W F₁
    have R' := R.deeper
    iterate 2 walk1
    refine fm_dict1 (p0 := p0) (by assumption) ((R' _).le (by omega)) (by assumption) ?_ ?_
    · intro h' d F₂
      iterate 2 walk1
      exact ⟨_, _, _, rfl, rfl, hp, by assumption⟩
    intro h2 dn on tk2 lo2 hno F₂
    iterate 21 walk1
    rename_i h3 lk ok hlo F3 h4 F4 h5 dc loc F5 h6 F6
    obtain ⟨kvs, hkd, hkk, hkf⟩ := id hd
    have ndk : ks.Nodup := by obtain ⟨_, _, _, _, _, _, nd⟩ := hkd; rw [← hkk]; exact nd
    have ln : kvs.length ≤ 13 := by
      have := (perm_up ndk hk).length_eq
      have h2 := up_len ks
      have h3 := congrArg List.length hkk
      rw [List.length_map] at h3
      omega
    refine fm_sortedDict (Room.handled (n := 0) (by walk_at "room")) F6 lo (Heap.dictOf_iff.mpr ⟨o, hr, hkd⟩) (by omega) ?_
    intro g7 h7 tk7 T7 vs ns F7 l7 hT hI hp7 hs7
    have en : ns = up ks := by
      rw [hkk] at hp7
      exact sorted_up hp7 hs7 ndk hk
    subst en
    have RLT : RL g7 T7 ((up ks).map .i) := ⟨vs, hT, RA.ints (ns := []) hI⟩
    refine pyIter_loop (Src.rl (Room.handled (n := 0) (by walk_at "room")) RLT) F7 (fun i g1 m1 V1 => ∃ oc ol on, V1 = (dc, oc) :: (lk, ol) :: (dn, on) :: W ∧ m1 "rows" = some (.ref r) ∧ m1 "numbers" = some (.ref dn) ∧ m1 "kept_rows" = some (.ref lk) ∧ m1 "classes" = some (.ref dc) ∧
      IO w oc (num fr p0 ((up ks).take i)).2 ∧ LO g1 ol ((num fr p0 ((up ks).take i)).1.map .t) ∧ NO w g1 on (num fr p0 ((up ks).take i)).1) ⟨emptyDict, ok, on, rfl, rfl, rfl, rfl, rfl, IO.nil, hlo.keeps l7, hno.keeps l7⟩ ?_ ?_
    · rintro i v g1 m1 V1 I oI h tk hi ⟨d, e, rd⟩ le ⟨oc, ol, on, rfl, m1r, m1n, m1k, m1c, Hc, Hl, Hn⟩ F8
      rw [List.getElem?_map] at e
      obtain ⟨k, e2, rfl⟩ := Option.map_eq_some_iff.mp e
      obtain ⟨t, rfl⟩ := rd.int_inv
      have hm : k ∈ ks := (mem_up.mp (List.mem_of_getElem? e2)).1
      have hr1 := Le.trans' l7 le _ _ hr
      have hd1 := hd.keeps (Le.trans' l7 le)
      iterate 7 walk1
      refine ro_item (by walk_at "le") hr1 hd1 hm ?_
      intro v rv
      have e3 : (up ks).take (i + 1) = (up ks).take i ++ [k] := by rw [List.take_add_one, e2]; rfl
      have hlen := num_len fr p0 ((up ks).take i)
      have ul := up_len ks
      have tl : ((up ks).take i).length ≤ 13 := by rw [List.length_take]; omega
      have hfresh : ∀ p ∈ (num fr p0 ((up ks).take i)).2, p.1 ≠ k := by
        intro p hp e
        have h1 := hlen.2.2 p hp
        rw [e] at h1
        have nd := up_nodup ks
        have : ((up ks).take (i + 1)).Nodup := nd.sublist (List.take_sublist _ _)
        rw [e3, List.nodup_append] at this
        exact this.2.2 _ h1 _ (List.mem_singleton.mpr rfl) rfl
      rw [e3, num_snoc]
      generalize num fr p0 ((up ks).take i) = st at *
      obtain ⟨kept, cc⟩ := st
      dsimp only at hlen hfresh Hc Hl Hn ⊢
      iterate 6 walk1
      refine no_notin ((R' _).le (by omega)) (by assumption) (o := on) (by simp) lo2 Hn rv ?_
      intro tk9
      by_cases hin : fr k ∈ kept
      · rw [decide_eq_true hin]
        iterate 9 walk1
        refine no_item ((R' _).le (by omega)) (by assumption) (o := on) (by simp) Hn rv hin ?_
        intro tk10 t10
        ((focus (iterate 4 walk1)); (focus (iterate 5 walk1)); (focus skip); rotate_left 1; (focus (iterate 2 walk1)); (focus skip); rotate_left 1; rotate_right 2)
        · rename_i hz
          refine no_item ((R' _).le (by omega)) (by assumption) (o := on) (by simp) Hn rv (by simp [hin]) ?_
          intro tkA tA
          iterate 2 walk1
          refine io_set (V1 := [(I, oI)]) (V2 := (lk, ol) :: (dn, on) :: W) (by assumption) Hc (by omega) ?_
          intro hB ocB tkB HcB FB
          iterate 2 walk1
          refine Turn.next [] (by assumption) Le.rfl' ?_
          have hz' : ¬ (kept).idxOf (fr k) = 0 := by omega
          have eS : numStep fr (kept, cc) k = (kept, cc ++ [(k, ((kept).idxOf (fr k) : Int))]) := by
            unfold numStep; simp only [hin, if_true, if_false, ne_eq, hz', not_false_eq_true]
          rw [eS]
          rw [putI_new hfresh] at HcB
          exact ⟨ocB, ol, on, rfl, m1r, m1n, m1k, m1c, HcB, Hl, Hn⟩
        · rename_i hz
          have hz' : (kept).idxOf (fr k) = 0 := by omega
          have eS : numStep fr (kept, cc) k = (kept, cc) := by
            unfold numStep; simp only [hin, if_true, if_false, ne_eq, hz', not_true_eq_false]
          rw [eS]
          refine Turn.next [] (by assumption) Le.rfl' ?_
          exact ⟨oc, ol, on, rfl, m1r, m1n, m1k, m1c, Hc, Hl, Hn⟩
      · rw [decide_eq_false hin]
        iterate 10 walk1
        refine lo_len (o := ol) (by assumption) (by simp) Hl (by simp; omega) ?_
        intro tk10 t10
        rw [List.length_map]
        iterate 2 walk1
        refine no_set (V1 := [(I, oI), (dc, oc), (lk, ol)]) (V2 := W) ((R' _).le (by omega)) (by assumption) Hn rv hin (by omega) ?_
        intro h11 on11 tk11 Hn11 F11
        iterate 4 walk1
        refine lo_meth (o := ol) (by assumption) (by simp) Hl ?_
        iterate 4 walk1
        refine lo_append (V1 := [(I, oI), (dc, oc)]) (V2 := (dn, on11) :: W) F11 Hl rv (by simp; omega) ?_
        intro h12 ol12 Hl12 F12
        iterate 7 walk1
        refine no_item ((R' _).le (by omega)) (by assumption) (o := on11) (by simp) Hn11 rv (by simp) ?_
        intro tk13 t13
        ((focus (iterate 4 walk1)); (focus (iterate 5 walk1)); (focus skip); rotate_left 1; (focus (iterate 2 walk1)); (focus skip); rotate_left 1; rotate_right 2)
        · rename_i hz
          refine no_item ((R' _).le (by omega)) (by assumption) (o := on11) (by simp) Hn11 rv (by simp [hin]) ?_
          intro tkA tA
          iterate 2 walk1
          refine io_set (V1 := [(I, oI)]) (V2 := (lk, ol12) :: (dn, on11) :: W) (by assumption) Hc (by omega) ?_
          intro hB ocB tkB HcB FB
          iterate 2 walk1
          refine Turn.next [] (by assumption) Le.rfl' ?_
          have hz' : ¬ ((kept ++ [fr k])).idxOf (fr k) = 0 := by omega
          have eS : numStep fr (kept, cc) k = ((kept ++ [fr k]), cc ++ [(k, (((kept ++ [fr k])).idxOf (fr k) : Int))]) := by
            unfold numStep; simp only [hin, if_true, if_false, ne_eq, hz', not_false_eq_true]
          rw [eS]
          rw [putI_new hfresh] at HcB
          exact ⟨ocB, ol12, on11, rfl, m1r, m1n, m1k, m1c, HcB, (by simpa using Hl12), Hn11⟩
        · rename_i hz
          have hz' : ((kept ++ [fr k])).idxOf (fr k) = 0 := by omega
          have eS : numStep fr (kept, cc) k = ((kept ++ [fr k]), cc) := by
            unfold numStep; simp only [hin, if_true, if_false, ne_eq, hz', not_true_eq_false]
          rw [eS]
          refine Turn.next [] (by assumption) Le.rfl' ?_
          exact ⟨oc, ol12, on11, rfl, m1r, m1n, m1k, m1c, Hc, (by simpa using Hl12), Hn11⟩
    · rintro g1 m1 V1 h tk le ⟨oc, ol, on, rfl, m1r, m1n, m1k, m1c, Hc, Hl, Hn⟩ F8
      rw [List.take_of_length_le (by simp)] at Hc Hl Hn
      obtain ⟨g9, F9, l9, e9⟩ := F8.freezeV
      obtain ⟨g10, F10, l10, e10⟩ := F9.freezeV
      have HID : ID w g10 dc (num fr p0 (up ks)).2 := by
        obtain ⟨kvs, q1, q2⟩ := Hc
        exact ⟨loc, kvs, Heap.dictOf_iff.mpr ⟨oc, l10 _ _ e9, q1⟩, q2⟩
      have HRL : RL g10 lk ((num fr p0 (up ks)).1.map .t) := by
        obtain ⟨vs, n, rfl, ra⟩ := Hl
        exact ⟨vs, ⟨_, e10, rfl, n, rfl⟩, ra.keeps (Le.trans' l9 l10)⟩
      clear F9 F8 F6 F7 F5 F3 F4 F₂ F₁
      iterate 11 walk1
      refine mk_spec (by assumption) F10 ((R' _).le (by omega)) ?_
      intro g11 h11 tk11 x F11 l11 hx
      iterate 3 walk1
      refine fm_tuple F11 ?_
      intro g12 h12 T F12 l12 hT
      skip
      exact End.ret [(dn, on)] F12 (Le.trans' l7 (Le.trans' le (Le.trans' l9 (Le.trans' l10 (Le.trans' l11 l12))))) ⟨T, x, dc, lk, rfl, ⟨_, hT, rfl, _, rfl⟩, hx.keeps l12, HID.keeps (Le.trans' l11 l12), HRL.keeps (Le.trans' l11 l12)⟩
  · rintro g' h' tk v F' l ⟨T, x, a, l', rfl, h1, h2, h3, h4⟩
    exact h g' h' tk T x a l' F' l h1 h2 h3 h4
end
end
section
open PySem PySem.W PyProof.Rows PySem.Calls
set_option maxRecDepth 100000
set_option maxHeartbeats 4000000
local macro_rules | `(tactic| walk_at "pad") => `(tactic| skip)
local macro_rules | `(tactic| walk_at "pad") => `(tactic| skip)
local macro_rules | `(tactic| walk_at "pad") => `(tactic| skip)
local macro_rules | `(tactic| walk_at "pad") => `(tactic| skip)
theorem up_congr {a b : List Int} (h : ∀ k, k ∈ a ↔ k ∈ b) : up a = up b := by
  unfold up
  refine List.filter_congr fun k _ => ?_
  rw [Bool.eq_iff_iff]; simp [h]
def fr2 (c d : List (Int × Int)) (k : Int) : List Int := [kdfLook c k 0, kdfLook d k 0]
/-- common_parts as it counts -/
def jn (c d : List (Int × Int)) : List (List Int) × List (Int × Int) := num (fr2 c d) [0, 0] (up (c.map (·.1) ++ d.map (·.1)))
theorem mem_putK {ks : List Int} {k x : Int} : x ∈ putK ks k ↔ x ∈ ks ∨ x = k := by
  unfold putK; split
  · constructor
    · exact .inl
    · rintro (h | rfl) <;> assumption
  · simp
theorem mem_foldl_putK {l ks : List Int} {x : Int} : x ∈ l.foldl putK ks ↔ x ∈ ks ∨ x ∈ l := by
  induction l generalizing ks with
  | nil => simp
  | cons k l ih => rw [List.foldl_cons, ih, mem_putK]; simp [or_assoc]
theorem putK_len (l ks : List Int) : (l.foldl putK ks).length ≤ ks.length + l.length := by
  induction l generalizing ks with
  | nil => simp
  | cons k l ih =>
    rw [List.foldl_cons]
    refine Nat.le_trans (ih _) ?_
    unfold putK; split <;> simp <;> omega
section
variable {w : World} {A : Around} {E : Value → Shared → Prop} {s : Shared} {base g g' h h' : Heap} {L f x y a b d : Addr} {m m' mg mb : Str → Option Value} {V V' V1 V2 : List (Addr × Obj)} {o : Obj} {env : Env}
theorem ID.len {c : List (Int × Int)} (i : ID w g a c) (hk : ∀ k ∈ c.map (·.1), 0 ≤ k ∧ k < 13) : c.length ≤ 13 := by
  have := (perm_up i.nodup hk).length_eq
  have h2 := up_len (c.map (·.1))
  rw [List.length_map] at this; omega
theorem fm_keys {c : List (Int × Int)} {Q : Value → Shared → Prop} (hh : A.handled = none) (F : Fm base g L m V s.heap) (i : ID w g a c) (hz : c.length ≤ 1000)
    (k : ∀ g' h' tk T vs, Fm base g' L m V h' → Le g g' → g'.IsList T vs.toArray → IntsAre vs (c.map (·.1)) → Q (.ref T) { s with heap := h', toks := tk }) :
    wpAny (model pg w) A (call (.type "list") [.ref a]) Q E s := by
  obtain ⟨lo, kvs, hd, hf⟩ := i
  have e := flat_keys hf
  have el := congrArg List.length e
  rw [List.length_map, List.length_map] at el
  refine fm_listOfDict hh F lo hd (by omega) fun g' h' tk T vs F' l hT hI => k g' h' tk T vs F' l hT (by rw [← e]; exact hI)
theorem islist_keeps {its : Array Value} (r : g.IsList a its) (l : Le g g') : g'.IsList a its := let ⟨o, e, q⟩ := r; ⟨o, l _ _ e, q⟩
theorem IntsAre.app : ∀ {us vs : List Value} {ms ns : List Int}, IntsAre us ms → IntsAre vs ns → IntsAre (us ++ vs) (ms ++ ns)
  | _, _, _, _, .nil, h => h
  | _, _, _, _, .cons n t r, h => .cons n t (IntsAre.app r h)
theorem IntsAre.len : ∀ {us : List Value} {ms : List Int}, IntsAre us ms → us.length = ms.length
  | _, _, .nil => rfl
  | _, _, .cons n t r => by rw [List.length_cons, List.length_cons, IntsAre.len r]

local macro_rules | `(tactic| walk_at "eval Dict nil nil") => `(tactic| (refine fm_dict (by assumption) (by assumption) ?_; intro _ _ _ _))
local macro_rules | `(tactic| walk_at "getMethod ref") => `(tactic| ((with_reducible show wpAny _ _ (getMethod (Value.ref _) (PySem.Str.ofString "class_of") _) _ _ _); refine meth_class_of (by assumption) (by assumption) (CD.keeps (by assumption) (by walk_at "leg")) ?_))
local macro_rules | `(tactic| walk_at "call ref") => `(tactic| ((with_reducible show wpAny _ _ (call (Value.ref 42) _ _) _ _ _); refine class_of_spec (by assumption) (by assumption) (by walk_at "room") (CD.keeps (by assumption) (by walk_at "leg")) (ID.keeps (by assumption) (by walk_at "leg")) ?_; intro _ _ _ _ _ _))

theorem common_spec {c c2 : List (Int × Int)} {Q : Value → Shared → Prop} (D : Md w base mg mb) (F : Fm base g L m V s.heap) (R : Room A 12) (hx : CD g x a) (hc : ID w g a c) (hy : CD g y b) (hc2 : ID w g b c2)
    (hk : ∀ k ∈ c.map (·.1), 0 ≤ k ∧ k < 13) (hk2 : ∀ k ∈ c2.map (·.1), 0 ≤ k ∧ k < 13)
    (h : ∀ g' h' tk T x a l, Fm base g' L m V h' → Le g g' → g'.IsTuple T #[.ref x, .ref l] → CD g' x a → ID w g' a (jn c c2).2 → RL g' l ((jn c c2).1.map .t) → Q (.ref T) { s with heap := h', toks := tk }) :
    wpAny (model pg w) A (call (.ref 82) [.ref x, .ref y]) Q E s := by
  refine call_fn (Post := fun g' v => ∃ T x a l, v = .ref T ∧ g'.IsTuple T #[.ref x, .ref l] ∧ CD g' x a ∧ ID w g' a (jn c c2).2 ∧ RL g' l ((jn c c2).1.map .t)) (binds := [("one", .ref x), ("other", .ref y)]) F (R.le (by omega)) D.lim (D.X _ _ rfl) rfl (codeRec_of D.X rfl) (.of_eq rfl) (by decide) (by simp; decide) ?_ ?_
  · intro L' h₁ W F₁
    have R' := R.deeper
    have ln1 := hc.len hk
    have ln2 := hc2.len hk2
    iterate 15 walk1
    rename_i h2 dr lor F2 h3 F3
    refine fm_keys (Room.handled (n := 0) (by walk_at "room")) F3 hc (by omega) ?_
    intro g4 h4 tk4 T4 vs4 F4 l4 hT4 hI4
    clear F2 F3
    iterate 8 walk1
    refine fm_keys (Room.handled (n := 0) (by walk_at "room")) F4 (hc2.keeps l4) (by omega) ?_
    intro g5 h5 tk5 T5 vs5 F5 l5 hT5 hI5
    skip
    refine fm_add F5 (islist_keeps hT4 l5) hT5 (by rw [IntsAre.len hI4, IntsAre.len hI5]; simp; omega) ?_
    intro g6 h6 T6 F6 l6 hT6
    have RLT : RL g6 T6 ((c.map (·.1) ++ c2.map (·.1)).map .i) := ⟨_, hT6, RA.ints (ns := []) (IntsAre.app hI4 hI5)⟩
    refine pyIter_loop (Src.rl (Room.handled (n := 0) (by walk_at "room")) RLT) F6 (fun i g1 m1 V1 => ∃ od, V1 = (dr, od) :: W ∧ m1 "rows" = some (.ref dr) ∧ m1 "one" = some (.ref x) ∧ m1 "other" = some (.ref y) ∧
      RO w g1 od (((c.map (·.1) ++ c2.map (·.1)).take i).foldl putK []) (fr2 c c2)) ⟨emptyDict, rfl, rfl, rfl, rfl, RO.nil⟩ ?_ ?_
    · rintro i v g1 m1 V1 I oI h tk hi ⟨d, e, rd⟩ le ⟨od, rfl, m1r, m1o, m1t, Hr⟩ F8
      rw [List.getElem?_map] at e
      obtain ⟨k, e2, rfl⟩ := Option.map_eq_some_iff.mp e
      obtain ⟨t, rfl⟩ := rd.int_inv
      have e3 : (c.map (·.1) ++ c2.map (·.1)).take (i + 1) = (c.map (·.1) ++ c2.map (·.1)).take i ++ [k] := by rw [List.take_add_one, e2]; rfl
      rw [e3, List.foldl_append]
      have lz : (((c.map (·.1) ++ c2.map (·.1)).take i).foldl putK []).length ≤ 100 := by
        refine Nat.le_trans (putK_len _ _) ?_
        rw [List.length_take]; simp; omega
      have hx1 := hx.keeps (Le.trans' l4 (Le.trans' l5 (Le.trans' l6 le)))
      have hy1 := hy.keeps (Le.trans' l4 (Le.trans' l5 (Le.trans' l6 le)))
      have hc1 := hc.keeps (Le.trans' l4 (Le.trans' l5 (Le.trans' l6 le)))
      have hc21 := hc2.keeps (Le.trans' l4 (Le.trans' l5 (Le.trans' l6 le)))
      clear F6 F5 F4 F₁
      iterate 29 walk1
      refine ro_set (V1 := [(I, oI)]) (V2 := W) (by assumption) (Hr.keeps (by walk_at "leg")) lz (by assumption) ?_
      intro h9 od9 tk9 Hr9 F9
      iterate 1 walk1
      refine Turn.next [] F9 (by walk_at "leg") ?_
      exact ⟨od9, rfl, m1r, m1o, m1t, Hr9⟩
    · rintro g1 m1 V1 h tk le ⟨od, rfl, m1r, m1o, m1t, Hr⟩ F8
      rw [List.take_of_length_le (by simp)] at Hr
      obtain ⟨g9, F9, l9, e9⟩ := F8.freezeV
      clear F8 F6 F5 F4 F₁
      have hup : up ((c.map (·.1) ++ c2.map (·.1)).foldl putK []) = up (c.map (·.1) ++ c2.map (·.1)) := up_congr fun k => by rw [mem_foldl_putK]; simp
      have hkk : ∀ k ∈ (c.map (·.1) ++ c2.map (·.1)).foldl putK [], 0 ≤ k ∧ k < 13 := by
        intro k hkm
        rcases mem_foldl_putK.mp hkm with q | q
        · cases q
        · rcases List.mem_append.mp q with q | q
          · exact hk k q
          · exact hk2 k q
      iterate 17 walk1
      rename_i g10 h10 T10 F10 l10 r10
      refine rows_spec (by assumption) F10 ((R' _).le (by omega)) lor (l10 _ _ e9) (Hr.keeps (Le.trans' l9 l10)) r10 hkk ?_
      intro g11 h11 tk11 T x' a' l' F11 l11 q1 q2 q3 q4
      rw [hup] at q3 q4
      exact End.ret [] F11 (Le.trans' l4 (Le.trans' l5 (Le.trans' l6 (Le.trans' le (Le.trans' l9 (Le.trans' l10 l11)))))) ⟨T, x', a', l', rfl, q1, q2, q3, q4⟩
  · rintro g' h' tk v F' l ⟨T, x, a, l', rfl, h1, h2, h3, h4⟩
    exact h g' h' tk T x a l' F' l h1 h2 h3 h4
end
end
section
open PySem PySem.W PyProof.Rows PySem.Calls
set_option maxRecDepth 100000
set_option maxHeartbeats 800000
def idx (ds : List Dv) : List Dv := ds.map fun d => Dv.i (ds.idxOf d)
def parting (c : List (Int × Int)) : List Dv := idx ((List.range 13).map fun (i : Nat) => Dv.i (kdfLook c (i : Int) 0))
theorem idx_at {ds : List Dv} {i : Nat} {d : Dv} (e : ds[i]? = some d) : ds[ds.idxOf d]? = some d ∧ ∀ j, j < ds.idxOf d → ds[j]? ≠ some d := by
  have hm : d ∈ ds := List.mem_of_getElem? e
  have hl := List.idxOf_lt_length_of_mem hm
  refine ⟨by rw [List.getElem?_eq_getElem hl, List.getElem_idxOf], fun j hj q => ?_⟩
  obtain ⟨h1, h2⟩ := List.getElem?_eq_some_iff.mp q
  have := List.not_of_lt_findIdx (p := (· == d)) (xs := ds) (i := j) hj
  rw [h2] at this
  simp at this
section
variable {prog : Program} {w : World} {A : Around} {E : Value → Shared → Prop} {s : Shared} {base g : Heap} {L : Addr} {m : Str → Option Value} {V : List (Addr × Obj)} {env : Env}
open PyProof.Rows.LCg in
theorem comp_doneP {g1 : Heap} {ys : List Value} {V1 : List (Addr × Obj)} {C D : Addr} {oL : Obj} {h : Heap} {tk : Nat} {m₂ : Str → Option Value} {Q : Value → Shared → Prop} (F0 : Fm base g L m V s.heap) (q : NsObj oL m)
    (F : Fm base g1 C m₂ ((L, oL) :: (D, lst ys) :: V1) h)
    (k : ∀ g2 h' , Le g1 g2 → Fm base g2 L m V1 h' → g2.get? D = some (lst ys) → Q (.ref D) { s with heap := h', toks := tk }) :
    compPost (model prog w) A E none Q (.ref D) C (.ok .next) { s with heap := h, toks := tk } := by
  refine ⟨m₂, F.F.ns, fun h' hs => ?_⟩
  have nC := F.volL
  have F' : Fm base g1 C m₂ ((L, oL) :: (D, lst ys) :: V1) h := F
  have B := F.back q F0.F.above
  have B' : Fm base g1 L m ((D, lst ys) :: V1) h' :=
    { F := ⟨B.F.ns.sameBut hs (nC (L, oL) (.head _)), fun b o e => hs.extBut b o (by rintro rfl; have := F.leb _ _ e; rw [F.offL] at this; cases this) (B.F.keep _ _ e), B.F.above⟩
      le := fun b o e => hs.extBut b o (by rintro rfl; rw [F.offL] at e; cases e) (B.le _ _ e)
      leb := B.leb, offL := B.offL, vol := fun p hp => hs.extBut _ _ (nC p (.tail _ hp)) (B.vol p hp), off := B.off, nd := B.nd }
  obtain ⟨g2, F2, l2, e2⟩ := B'.freezeV
  exact k g2 h' l2 F2 e2
open PyProof.Rows.LCg in
theorem comp_doneAP {g1 : Heap} {ys : List Value} {V1 : List (Addr × Obj)} {C D : Addr} {oL : Obj} {h : Heap} {tk : Nat} {m₂ : Str → Option Value} {y : Str} {py : Pos} {Q : Value → Shared → Prop} (F0 : Fm base g env.locals m V s.heap) (q : NsObj oL m)
    (F : Fm base g1 C m₂ ((env.locals, oL) :: (D, lst ys) :: V1) h)
    (k : ∀ g2 h' tk', Le g1 g2 → Fm base g2 env.locals (fun z => if z = y then some (.ref D) else m z) V1 h' → g2.get? D = some (lst ys) → Q .none { s with heap := h', toks := tk' })
    (hk : env.scope.kind = .function := by rfl) (hl : env.kindOf y = some .local := by rfl) :
    compPost (model prog w) A E (some (assign (.Name y py) env)) Q (.ref D) C (.ok .next) { s with heap := h, toks := tk } := by
  obtain ⟨oC, eC, qC⟩ := ns_obj F.F.ns
  have B := F.back q F0.F.above
  have B : Fm base g1 env.locals m ((C, oC) :: (D, lst ys) :: V1) h := Fm.addOld B eC F.offL (Ne.symm fun e => F.volL (env.locals, oL) (.head _) e.symm) fun p hp => F.volL p (.tail _ hp)
  show wpAny _ _ (assign (.Name y py) env (.ref D)) _ _ _
  refine wpAny_assign_Name (fm_st (s := { s with heap := h, toks := tk }) B (fun h₁ F₁ => ?_) hk hl)
  refine ⟨m₂, qC.ns (F₁.vol (C, oC) (.head _)), fun h' hs => ?_⟩
  obtain ⟨g2, F2, l2, e2⟩ := (F₁.away hs.extBut).freezeV
  exact k g2 h' _ l2 F2 e2
end
/-- a list that a comprehension made -/
def PL (g : Heap) (a : Addr) (ds : List Dv) : Prop := ∃ vs, g.get? a = some (LCg.lst vs) ∧ RA g vs ds
theorem PL.keeps {g g' : Heap} {a : Addr} {ds : List Dv} (r : PL g a ds) (l : Le g g') : PL g' a ds := let ⟨vs, e, q⟩ := r; ⟨vs, l _ _ e, q.keeps l⟩
theorem PL.rl {g : Heap} {a : Addr} {ds : List Dv} (r : PL g a ds) : RL g a ds := let ⟨vs, e, q⟩ := r; ⟨vs, ⟨_, e, rfl, _, rfl⟩, q⟩
section
variable {w : World} {A : Around} {E : Value → Shared → Prop} {s : Shared} {base g g' h h' : Heap} {L f x y a b d : Addr} {m m' mg mb : Str → Option Value} {V V' V1 V2 : List (Addr × Obj)} {o : Obj} {env : Env}

theorem pl_meth {ds : List Dv} {pl : Sem Bool} {Q : Value × List Value → Shared → Prop} (r : PL g a ds) (le : Le g s.heap) (h : Q (.builtin "list.index", [.ref a]) s) :
    wpAny (model pg w) A (getMethod (.ref a) "index" pl) Q E s := by
  obtain ⟨vs, e, -⟩ := r
  exact getMethod_builtin ⟨_, le _ _ e, rfl⟩ PySem.F.plainAttrs_list PySem.F.slot_list_index PySem.F.type_list_index (fun b q => by cases q; exact ⟨_, le _ _ e, rfl⟩) h
theorem marks_spec {ds : List Dv} {Q : Value → Shared → Prop} (D : Md w base mg mb) (F : Fm base g L m V s.heap) (R : Room A 4) (r : PL g a ds) (hz : ds.length ≤ 100)
    (h : ∀ g' h' tk T, Fm base g' L m V h' → Le g g' → PL g' T (idx ds) → Q (.ref T) { s with heap := h', toks := tk }) :
    wpAny (model pg w) A (call (.ref 106) [.ref a]) Q E s := by
  refine call_fnC (Post := fun g' v => ∃ T, v = .ref T ∧ PL g' T (idx ds)) (binds := [("marks", .ref a)]) F (R.le (by omega)) D.lim (D.X _ _ rfl) rfl (codeRec_of D.X rfl) rfl rfl (fun n y hy => by simp at hy; subst hy; exact .inr ⟨rfl, rfl⟩) (by decide) ?_ ?_
  · intro L' h₁ W C tk X F₁
    obtain ⟨o, rfl, ho⟩ := CellsAre.one X
    obtain ⟨g1, F₁, l1, e1⟩ := F₁.freezeV
    have hcell : g1.IsCell (L' + 1) (some (.ref a)) := ⟨o, e1, ho⟩
    have r1 := r.keeps l1
    iterate 4 walk1
    refine pyIter_comp (Src.rl (Room.handled (n := 0) (by walk_at "room")) r1.rl) (by assumption) (by rw [sizeLine_eq]; omega) (fun i g3 ys V1 => V1 = W ∧ RA g3 ys ((idx ds).take i)) ⟨rfl, RA.nil⟩ ?_ ?_
    · rintro i v g1 ys V1 I oI C D oL h tk m₂ hi ⟨d, e, rd⟩ le ⟨rfl, hy⟩ q hx hl F₃
      have hcell1 := hcell.keeps le
      refine no_ifs ?_
      rw [if_pos rfl]
      iterate 2 walk1
      refine pl_meth (r1.keeps le) (by walk_at "le") ?_
      iterate 4 walk1
      obtain ⟨i1, i2⟩ := idx_at e
      have i3 : ds.idxOf d < ds.length := List.idxOf_lt_length_of_mem (List.mem_of_getElem? e)
      refine index_rl (by walk_at "room") (r1.rl.keeps le) (rd.keeps le) (by walk_at "le") i1 i2 (by omega) ?_
      refine CEnd.mk' (by assumption) Le.rfl' ⟨rfl, hy.snocK Le.rfl' ?_ (RD.int _ _)⟩
      rw [idx, List.getElem?_map, e]; rfl
    · rintro g1 ys V1 C D oL h tk m₂ le ⟨rfl, hy⟩ q F₃
      refine comp_doneP (by assumption) q F₃ fun g3 h3 l3 F₄ hL => ?_
      have RLD : PL g3 D (idx ds) := ⟨ys, hL, by
        have := hy.keeps l3
        rwa [List.take_of_length_le (by simp [idx])] at this⟩
      skip
      exact End.ret [] (by assumption) (Le.trans' l1 (Le.trans' le l3)) ⟨_, rfl, RLD⟩
  · rintro g' h' tk v F' l ⟨T, rfl, r⟩
    exact h g' h' tk T F' l r

local macro_rules | `(tactic| walk_at "getMethod ref") => `(tactic| ((with_reducible show wpAny _ _ (getMethod (Value.ref _) (PySem.Str.ofString "class_of") _) _ _ _); refine meth_class_of (by assumption) (by assumption) (CD.keeps (by assumption) (by walk_at "leg")) ?_))
local macro_rules | `(tactic| walk_at "call ref") => `(tactic| ((with_reducible show wpAny _ _ (call (Value.ref 42) _ _) _ _ _); refine class_of_spec (by assumption) (by assumption) (by walk_at "room") (CD.keeps (by assumption) (by walk_at "leg")) (ID.keeps (by assumption) (by walk_at "leg")) ?_; intro _ _ _ _ _ _))
theorem parting_spec {c : List (Int × Int)} {Q : Value → Shared → Prop} (D : Md w base mg mb) (F : Fm base g L m V s.heap) (R : Room A 8) (hc : CD g x a) (hd : ID w g a c)
    (h : ∀ g' h' tk T, Fm base g' L m V h' → Le g g' → PL g' T (parting c) → Q (.ref T) { s with heap := h', toks := tk }) :
    wpAny (model pg w) A (call (.ref 101) [.ref x]) Q E s := by
  refine call_fnC (Post := fun g' v => ∃ T, v = .ref T ∧ PL g' T (parting c)) (binds := [("classdef", .ref x)]) F (R.le (by omega)) D.lim (D.X _ _ rfl) rfl (codeRec_of D.X rfl) rfl rfl (fun n y hy => by simp at hy; subst hy; exact .inr ⟨rfl, rfl⟩) (by decide) ?_ ?_
  · intro L' h₁ W C tk X F₁
    have R' := R.deeper
    obtain ⟨o1, o2, rfl, h1, h2⟩ := CellsAre.two X
    obtain ⟨g1, F1, l1, e1⟩ := (F₁.perm (V1 := (L' + 1, o2) :: (L' + 1 + 1, o1) :: W) (List.Perm.swap _ _ _)).freezeV
    have hcell : g1.IsCell (L' + 1) (some (.ref x)) := ⟨o2, e1, h2⟩
    replace h1 : o1.data = .cell none := h1
    have hc1 := hc.keeps l1
    have hd1 := hd.keeps l1
    clear F₁
    iterate 9 walk1
    refine fm_range1 F1 ?_
    intro g2 h2 r2 tk2 t2 u2 v2 F2 l2 hr2
    refine pyIter_comp (Src.range0 13 (by omega) (Room.handled (n := 0) (by walk_at "room")) hr2) F2 (by rw [sizeLine_eq]; omega) (fun i g3 ys V1 => V1 = (L' + 1 + 1, o1) :: W ∧ RA g3 ys (((List.range 13).map fun (i : Nat) => Dv.i (kdfLook c (i : Int) 0)).take i)) ⟨rfl, RA.nil⟩ ?_ ?_
    · rintro i v g1 ys V1 I oI C D oL h tk m₂ hi ⟨t, rfl⟩ le ⟨rfl, hy⟩ q hx hl F₃
      have hcell1 := hcell.keeps (Le.trans' l2 le)
      have hc2 := hc1.keeps (Le.trans' l2 le)
      have hd2 := hd1.keeps (Le.trans' l2 le)
      refine no_ifs ?_
      rw [if_pos rfl]
      iterate 9 walk1
      refine CEnd.mk' (by assumption) (by assumption) ⟨rfl, hy.snocK (by assumption) ?_ (RD.int _ _)⟩
      rw [List.getElem?_map, List.getElem?_range hi]; rfl
    · rintro g3 ys V1 C D oL h tk m₂ le ⟨rfl, hy⟩ q F₃
      refine comp_doneP (by assumption) q F₃ fun g4 h4 l4 F4 hL => ?_
      have RLD : PL g4 D ((List.range 13).map fun (i : Nat) => Dv.i (kdfLook c (i : Int) 0)) := ⟨ys, hL, by
        have := hy.keeps l4
        rwa [List.take_of_length_le (by simp)] at this⟩
      clear F₃ F2 F1
      skip
      refine fm_stC (V1 := []) F4 rfl h1 ?_
      intro h5 o5 d5 F5
      obtain ⟨g6, F6, l6, e6⟩ := Fm.freezeV F5
      have hcell2 : g6.IsCell (L' + 1 + 1) (some (.ref D)) := ⟨o5, e6, d5⟩
      have r6 := RLD.keeps l6
      clear F4 F5
      iterate 4 walk1
      generalize hds : ((List.range 13).map fun (i : Nat) => Dv.i (kdfLook c (i : Int) 0)) = ds at *
      have hdl : ds.length = 13 := by rw [← hds]; simp
      refine pyIter_comp (Src.rl (Room.handled (n := 0) (by walk_at "room")) r6.rl) F6 (by rw [sizeLine_eq]; omega) (fun i g3 ys V1 => V1 = W ∧ RA g3 ys ((idx ds).take i)) ⟨rfl, RA.nil⟩ ?_ ?_
      · rintro i v g7 ys V1 I oI C D oL h tk m₂ hi ⟨d, e, rd⟩ le7 ⟨rfl, hy⟩ q hx hl F₃
        have hcell3 := hcell2.keeps le7
        refine no_ifs ?_
        rw [if_pos rfl]
        iterate 2 walk1
        refine pl_meth (r6.keeps le7) (by walk_at "le") ?_
        iterate 4 walk1
        obtain ⟨i1, i2⟩ := idx_at e
        have i3 : ds.idxOf d < ds.length := List.idxOf_lt_length_of_mem (List.mem_of_getElem? e)
        refine index_rl (by walk_at "room") (r6.rl.keeps le7) (rd.keeps le7) (by walk_at "le") i1 i2 (by omega) ?_
        refine CEnd.mk' (by assumption) Le.rfl' ⟨rfl, hy.snocK Le.rfl' ?_ (RD.int _ _)⟩
        rw [idx, List.getElem?_map, e]; rfl
      · rintro g7 ys V1 C D oL h tk m₂ le7 ⟨rfl, hy⟩ q F₃
        refine comp_doneP (by assumption) q F₃ fun g8 h8 l8 F₄ hL => ?_
        have RLD : PL g8 D (idx ds) := ⟨ys, hL, by
          have := hy.keeps l8
          rwa [List.take_of_length_le (by simp [idx])] at this⟩
        skip
        exact End.ret [] (by assumption) (Le.trans' l1 (Le.trans' l2 (Le.trans' le (Le.trans' l4 (Le.trans' l6 (Le.trans' le7 l8)))))) ⟨_, rfl, by unfold parting; rw [hds]; exact RLD⟩
  · rintro g' h' tk v F' l ⟨T, rfl, r⟩
    exact h g' h' tk T F' l r
end
end
section
open PySem PySem.W PyProof.Rows PySem.Calls
set_option maxRecDepth 100000
set_option maxHeartbeats 6000000
local macro_rules | `(tactic| walk_at "pad") => `(tactic| skip)
local macro_rules | `(tactic| walk_at "pad") => `(tactic| skip)
local macro_rules | `(tactic| walk_at "pad") => `(tactic| skip)
/-- the pen: its cells' list, its seat, its rest -/
def PO (o : Obj) (cl : Addr) (seat rest : Int) : Prop := o.cls = .type "list" ∧ ∃ (n : Nat) (t u : Tok), o.data = .seq #[.ref cl, .int seat t, .int rest u] n
theorem pw1 {c seat : Int} (h0 : 0 ≤ seat) (h1 : seat ≤ 1000) : (c.fmod 2147483629 + 40503 * seat + 977).natAbs < 2 ^ 64 := by
  have a := Int.fmod_nonneg_of_pos c (show (0:Int) < 2147483629 by omega)
  have b := Int.fmod_lt_of_pos c (show (0:Int) < 2147483629 by omega)
  omega
theorem pw2 {c seat : Int} (h0 : 0 ≤ seat) (h1 : seat ≤ 1000) : (c.fmod 2147483587 * (2 * seat + 5003) + seat * seat + 11).natAbs < 2 ^ 64 := by
  have a := Int.fmod_nonneg_of_pos c (show (0:Int) < 2147483587 by omega)
  have b := Int.fmod_lt_of_pos c (show (0:Int) < 2147483587 by omega)
  have p1 : c.fmod 2147483587 * (2 * seat + 5003) ≤ 2147483587 * 7003 := Int.mul_le_mul (by omega) (by omega) (by omega) (by omega)
  have p2 : seat * seat ≤ 1000 * 1000 := Int.mul_le_mul h1 h1 h0 (by omega)
  have p3 : 0 ≤ c.fmod 2147483587 * (2 * seat + 5003) := Int.mul_nonneg a (by omega)
  have p4 : 0 ≤ seat * seat := Int.mul_nonneg h0 h0
  omega
section
variable {w : World} {A : Around} {E : Value → Shared → Prop} {s : Shared} {base g g' h h' : Heap} {L f x y a b d p cl : Addr} {m m' mg mb : Str → Option Value} {V V' V1 V2 : List (Addr × Obj)} {o : Obj} {env : Env} {seat rest : Int}

theorem po_list (F : Fm base g L m V h) (hV : (p, o) ∈ V) (P : PO o cl seat rest) : ∃ t u, h.IsList p #[.ref cl, .int seat t, .int rest u] := let ⟨hc, n, t, u, hd⟩ := P; ⟨t, u, o, F.vol _ hV, hc, n, hd⟩
theorem po_get0 {Q : Value → Shared → Prop} {value slice : PySem.Expr} {t : Tok} (F : Fm base g L m V s.heap) (hV : (p, o) ∈ V) (P : PO o cl seat rest) (h : Q (.ref cl) s)
    (hs : subscripted slice false (.ref p) (.int 0 t) = operate [.ref p, .int 0 t] (getItem (.ref p) (.int 0 t)) := by with_unfolding_all rfl) :
    wpAny (model pg w) A (subscriptTail value slice (.ref p) (.int 0 t)) Q E s := by
  obtain ⟨t1, u1, hl⟩ := po_list F hV P
  exact tail_any hl.typeIs slot_list_getitem.lookup (wpAny_getItem_list hl (by omega) (by omega) rfl h) hs
theorem po_get1 {Q : Value → Shared → Prop} {value slice : PySem.Expr} {t : Tok} (F : Fm base g L m V s.heap) (hV : (p, o) ∈ V) (P : PO o cl seat rest) (h : ∀ t, Q (.int seat t) s)
    (hs : subscripted slice false (.ref p) (.int 1 t) = operate [.ref p, .int 1 t] (getItem (.ref p) (.int 1 t)) := by with_unfolding_all rfl) :
    wpAny (model pg w) A (subscriptTail value slice (.ref p) (.int 1 t)) Q E s := by
  obtain ⟨t1, u1, hl⟩ := po_list F hV P
  exact tail_any hl.typeIs slot_list_getitem.lookup (wpAny_getItem_list hl (by omega) (by omega) rfl (h _)) hs
theorem po_get2 {Q : Value → Shared → Prop} {value slice : PySem.Expr} {t : Tok} (F : Fm base g L m V s.heap) (hV : (p, o) ∈ V) (P : PO o cl seat rest) (h : ∀ t, Q (.int rest t) s)
    (hs : subscripted slice false (.ref p) (.int 2 t) = operate [.ref p, .int 2 t] (getItem (.ref p) (.int 2 t)) := by with_unfolding_all rfl) :
    wpAny (model pg w) A (subscriptTail value slice (.ref p) (.int 2 t)) Q E s := by
  obtain ⟨t1, u1, hl⟩ := po_list F hV P
  exact tail_any hl.typeIs slot_list_getitem.lookup (wpAny_getItem_list hl (by omega) (by omega) rfl (h _)) hs
theorem po_set1 {Q : Unit → Shared → Prop} {k : Int} {t u : Tok} {q : Addr × Obj} (F : Fm base g L m (q :: (p, o) :: V2) s.heap) (P : PO o cl seat rest)
    (hQ : ∀ h' o', PO o' cl k rest → Fm base g L m (q :: (p, o') :: V2) h' → Q () { s with heap := h' }) : wpAny (model pg w) A (setItem (.ref p) (.int 1 t) (.int k u)) Q E s := by
  obtain ⟨t1, u1, hl⟩ := po_list F (p := p) (o := o) (by simp) P
  refine wpAny_setItem_list hl (by omega) (by omega) (by simp) fun h' ⟨o', e, hc, n, hd⟩ hs => ?_
  exact hQ h' o' ⟨hc, n, u, u1, hd⟩ (Fm.upd (V1 := [q]) F hs.extBut e)
theorem po_set2 {Q : Unit → Shared → Prop} {k : Int} {t u : Tok} {q : Addr × Obj} (F : Fm base g L m (q :: (p, o) :: V2) s.heap) (P : PO o cl seat rest)
    (hQ : ∀ h' o', PO o' cl seat k → Fm base g L m (q :: (p, o') :: V2) h' → Q () { s with heap := h' }) : wpAny (model pg w) A (setItem (.ref p) (.int 2 t) (.int k u)) Q E s := by
  obtain ⟨t1, u1, hl⟩ := po_list F (p := p) (o := o) (by simp) P
  refine wpAny_setItem_list hl (by omega) (by omega) (by simp) fun h' ⟨o', e, hc, n, hd⟩ hs => ?_
  exact hQ h' o' ⟨hc, n, t1, u, hd⟩ (Fm.upd (V1 := [q]) F hs.extBut e)

local macro_rules | `(tactic| walk_at "subscriptTail") => `(tactic| ((with_reducible show wpAny _ _ (subscriptTail _ _ (Value.ref _) (Value.int 0 _)) _ _ _); refine po_get0 (by assumption) (.tail _ (.head _)) (by assumption) ?_))
local macro_rules | `(tactic| walk_at "subscriptTail") => `(tactic| ((with_reducible show wpAny _ _ (subscriptTail _ _ (Value.ref _) (Value.int 1 _)) _ _ _); refine po_get1 (by assumption) (.tail _ (.head _)) (by assumption) ?_; intro _))
local macro_rules | `(tactic| walk_at "subscriptTail") => `(tactic| ((with_reducible show wpAny _ _ (subscriptTail _ _ (Value.ref _) (Value.int 2 _)) _ _ _); refine po_get2 (by assumption) (.tail _ (.head _)) (by assumption) ?_; intro _))
local macro_rules | `(tactic| walk_at "setItem") => `(tactic| ((with_reducible show wpAny _ _ (setItem (Value.ref _) (Value.int 1 _) _) _ _ _); refine po_set1 (by assumption) (by assumption) ?_; intro _ _ _ _))
local macro_rules | `(tactic| walk_at "setItem") => `(tactic| ((with_reducible show wpAny _ _ (setItem (Value.ref _) (Value.int 2 _) _) _ _ _); refine po_set2 (by assumption) (by assumption) ?_; intro _ _ _ _))
local macro_rules | `(tactic| walk_at "call builtin:len") => `(tactic| (refine fm_len (by assumption) (by walk_at "le") (by first | assumption | omega | simp) ?_; intro _ _))
local macro_rules | `(tactic| walk_at "binaryOp Pow int int") => `(tactic| (refine pow_int_small ?_ ?_ ?_ ?_; (· omega); (· omega); (· first | exact pw1 (by assumption) (by assumption) | exact pw2 (by assumption) (by assumption))))

theorem draw_spec {cells : List Int} {many : Int} {t : Tok} {Q : Value → Shared → Prop} (D : Md w base mg mb) (F : Fm base g L m ((p, o) :: V) s.heap) (R : Room A 4) (P : PO o cl seat rest) (hcl : RL g cl (cells.map .i)) (hz : cells.length ≤ 40)
    (hs0 : 0 ≤ seat) (hs1 : seat ≤ 1000) (hr : 0 ≤ rest) (hm : 0 < many) (hm2 : many ≤ 12)
    (h : ∀ g' h' tk k t o' seat' rest', Fm base g' L m ((p, o') :: V) h' → Le g g' → PO o' cl seat' rest' → 0 ≤ k → k < many → 0 ≤ seat' → seat' ≤ seat + 1 → 0 ≤ rest' → Q (.int k t) { s with heap := h', toks := tk }) :
    wpAny (model pg w) A (call (.ref 89) [.ref p, .int many t]) Q E s := by
  refine call_fnE (Post := fun g' V' v => ∃ k t o' seat' rest', V' = (p, o') :: V ∧ v = .int k t ∧ PO o' cl seat' rest' ∧ 0 ≤ k ∧ k < many ∧ 0 ≤ seat' ∧ seat' ≤ seat + 1 ∧ 0 ≤ rest') (binds := [("pen", .ref p), ("many", .int many t)]) F (R.le (by omega)) D.lim (D.X _ _ rfl) rfl (codeRec_of D.X rfl) (.of_eq rfl) (by decide) (by simp; decide) ?_ ?_
  · intro L' h₁ q F₁
    have R' := R.deeper
    obtain ⟨vs, hlv, hra⟩ := id hcl
    have hlen := hra.len
    rw [List.length_map] at hlen
    ((focus (iterate 11 walk1)); (focus (iterate 25 walk1)); (focus skip); rotate_left 1; (focus (iterate 25 walk1)); (focus skip); rotate_left 1; rotate_right 2)
    · dsimp only
      exact EndV.ret [] (by assumption) Le.rfl' ⟨rest.fmod many, _, _, seat, rest.fdiv many, rfl, rfl, by assumption, Int.fmod_nonneg_of_pos _ hm, Int.fmod_lt_of_pos _ hm, hs0, by omega, Int.fdiv_nonneg hr (by omega)⟩
    · rename_i h3 hF3
      have hvz : vs.length ≤ 1000 := by omega
      refine wpAny_truthy_list (islist_keeps hlv (by walk_at "le")) (by simp; omega) ?_
      by_cases hem : cells = []
      · subst hem
        have : vs = [] := List.length_eq_zero_iff.mp hlen
        subst this
        have e0 : (!([] : List Value).toArray.isEmpty) = false := rfl
        rw [e0]
        ((focus (iterate 21 walk1)); (focus (iterate 77 walk1)); (focus skip); rotate_left 1; (focus (iterate 61 walk1)); (focus skip); rotate_left 1; rotate_right 2)
        all_goals first
          | (exfalso; have hh : seat < (([] : List Value).length : Int) := (by assumption); simp at hh; omega)
          | (dsimp only; exact EndV.ret [] (by assumption) Le.rfl' ⟨_, _, _, seat + 1, rest, rfl, rfl, by assumption, Int.fmod_nonneg_of_pos _ hm, Int.fmod_lt_of_pos _ hm, by omega, by omega, hr⟩)
          | (dsimp only; exact EndV.ret [] (by assumption) Le.rfl' ⟨_, _, _, seat + 1, _, rfl, rfl, by assumption, Int.fmod_nonneg_of_pos _ hm, Int.fmod_lt_of_pos _ hm, by omega, by omega, Int.fdiv_nonneg (Int.sub_nonneg_of_le (by assumption)) (by omega)⟩)
      · have hpos : 0 < vs.length := by rw [hlen]; exact List.length_pos_iff.mpr hem
        have e0 : (!vs.toArray.isEmpty) = true := by
          cases vs with
          | nil => simp at hpos
          | cons _ _ => rfl
        rw [e0]
        iterate 19 walk1
        have b0 := Int.fmod_nonneg_of_pos seat (show (0:Int) < vs.length by omega)
        have b1 := Int.fmod_lt_of_pos seat (show (0:Int) < vs.length by omega)
        have hlt : (seat.fmod (vs.length : Int)).toNat < vs.length := by omega
        obtain ⟨dv, e1, rv⟩ := hra.at (List.getElem?_eq_getElem hlt)
        rw [List.getElem?_map] at e1
        obtain ⟨cell, e2, rfl⟩ := Option.map_eq_some_iff.mp e1
        obtain ⟨tc, e3⟩ := rv.int_inv
        refine fm_item hlv (by walk_at "le") b0 (by omega) (List.getElem?_eq_getElem hlt) ?_
        rw [e3]
        ((focus (iterate 19 walk1)); (focus (iterate 16 walk1)); (focus (iterate 33 walk1)); (focus skip); rotate_left 1; (focus (iterate 61 walk1)); (focus skip); rotate_left 1; rotate_right 2; (focus skip); rotate_left 2; (focus (iterate 61 walk1)); (focus skip); rotate_left 1; rotate_right 3)
        all_goals first
          | (exfalso; have hh : seat < (([] : List Value).length : Int) := (by assumption); simp at hh; omega)
          | (dsimp only; exact EndV.ret [] (by assumption) Le.rfl' ⟨_, _, _, seat + 1, rest, rfl, rfl, by assumption, Int.fmod_nonneg_of_pos _ hm, Int.fmod_lt_of_pos _ hm, by omega, by omega, hr⟩)
          | (dsimp only; exact EndV.ret [] (by assumption) Le.rfl' ⟨_, _, _, seat + 1, _, rfl, rfl, by assumption, Int.fmod_nonneg_of_pos _ hm, Int.fmod_lt_of_pos _ hm, by omega, by omega, Int.fdiv_nonneg (Int.sub_nonneg_of_le (by assumption)) (by omega)⟩)
  · rintro g' h' tk V' v F' l ⟨k, t, o', seat', rest', rfl, rfl, P', a1, a2, a3, a4, a5⟩
    exact h g' h' tk k t o' seat' rest' F' l P' a1 a2 a3 a4 a5
end
end
section
open PySem PySem.W PyProof.Rows PySem.Calls
set_option maxRecDepth 100000
set_option maxHeartbeats 2000000
def Good (c : List (Int × Int)) : Prop := ∀ q ∈ c, 0 ≤ q.1 ∧ q.1 < 12 ∧ 1 ≤ q.2 ∧ q.2 ≤ 3
theorem putI_len (c : List (Int × Int)) (k v : Int) : (putI c k v).length ≤ c.length + 1 := by
  unfold putI; split <;> simp
theorem Good.put {c : List (Int × Int)} {k v : Int} (h : Good c) (h0 : 0 ≤ k) (h1 : k < 12) (h2 : 1 ≤ v) (h3 : v ≤ 3) : Good (putI c k v) := by
  intro q hq
  unfold putI at hq
  split at hq
  · obtain ⟨p, hp, rfl⟩ := List.mem_map.mp hq
    have := h p hp
    split
    · exact ⟨this.1, this.2.1, h2, h3⟩
    · exact this
  · rcases List.mem_append.mp hq with z | z
    · exact h q z
    · rw [List.mem_singleton.mp z]; exact ⟨h0, h1, h2, h3⟩
section
variable {w : World} {A : Around} {E : Value → Shared → Prop} {s : Shared} {base g g' h h' : Heap} {L f x y a b d p cl : Addr} {m m' mg mb : Str → Option Value} {V V' V1 V2 : List (Addr × Obj)} {o : Obj} {env : Env} {seat rest : Int}
theorem draw_at {cells : List Int} {many : Int} {t : Tok} {Q : Value → Shared → Prop} (D : Md w base mg mb) (F : Fm base g L m (V1 ++ (p, o) :: V2) s.heap) (R : Room A 4) (P : PO o cl seat rest) (hcl : RL g cl (cells.map .i)) (hz : cells.length ≤ 40)
    (hs0 : 0 ≤ seat) (hs1 : seat ≤ 1000) (hr : 0 ≤ rest) (hm : 0 < many) (hm2 : many ≤ 12)
    (h : ∀ g' h' tk k t o' seat' rest', Fm base g' L m (V1 ++ (p, o') :: V2) h' → Le g g' → PO o' cl seat' rest' → 0 ≤ k → k < many → 0 ≤ seat' → seat' ≤ seat + 1 → 0 ≤ rest' → Q (.int k t) { s with heap := h', toks := tk }) :
    wpAny (model pg w) A (call (.ref 89) [.ref p, .int many t]) Q E s :=
  draw_spec D (F.perm List.perm_middle) R P hcl hz hs0 hs1 hr hm hm2 fun g' h' tk k t o' seat' rest' F' => h g' h' tk k t o' seat' rest' (F'.perm List.perm_middle.symm)
local macro_rules | `(tactic| walk_at "eval Dict nil nil") => `(tactic| (refine fm_dict (by assumption) (by assumption) ?_; intro _ _ _ _))

theorem lclasses_spec {cells : List Int} {Q : Value → Shared → Prop} (D : Md w base mg mb) (F : Fm base g L m ((p, o) :: V) s.heap) (R : Room A 8) (P : PO o cl seat rest) (hcl : RL g cl (cells.map .i)) (hz : cells.length ≤ 40)
    (hs0 : 0 ≤ seat) (hs1 : seat ≤ 900) (hr : 0 ≤ rest)
    (h : ∀ g' h' tk d c o' seat' rest', Fm base g' L m ((p, o') :: V) h' → Le g g' → ID w g' d c → Good c → PO o' cl seat' rest' → 0 ≤ seat' → seat' ≤ seat + 19 → 0 ≤ rest' → Q (.ref d) { s with heap := h', toks := tk }) :
    wpAny (model pg w) A (call (.ref 96) [.ref p]) Q E s := by
  refine call_fnE (Post := fun g' V' v => ∃ d c o' seat' rest', V' = (p, o') :: V ∧ v = .ref d ∧ ID w g' d c ∧ Good c ∧ PO o' cl seat' rest' ∧ 0 ≤ seat' ∧ seat' ≤ seat + 19 ∧ 0 ≤ rest') (binds := [("pen", .ref p)]) F (R.le (by omega)) D.lim (D.X _ _ rfl) rfl (codeRec_of D.X rfl) (.of_eq rfl) (by decide) (by simp) ?_ ?_
  · intro L' h₁ q F₁
    have R' := R.deeper
    iterate 19 walk1
    rename_i h2 df lof F2 h3 F3
    refine draw_at (V1 := [(df, emptyDict), q]) (V2 := V) (by assumption) F3 ((R' _).le (by omega)) P hcl hz hs0 (by omega) hr (by omega) (by omega) ?_
    intro g4 h4 tk4 laps t4 o4 seat4 rest4 F4 l4 P4 k0 k1 s0 s1 r0
    obtain ⟨nl, rfl⟩ : ∃ n : Nat, laps = (n : Int) := ⟨laps.toNat, by omega⟩
    iterate 1 walk1
    refine fm_range1 F4 ?_
    intro g5 h5 r5 tk5 t5 u5 v5 F5 l5 hr5
    have hcl5 := hcl.keeps (Le.trans' l4 l5)
    clear F4 F3 F2 F₁
    refine pyIter_loop (Src.range0 nl (by omega) (Room.handled (n := 0) (by walk_at "room")) hr5) F5 (fun i g1 m1 V1 => ∃ od c o' seat' rest', V1 = (df, od) :: q :: (p, o') :: V ∧ m1 "pen" = some (.ref p) ∧ m1 "found" = some (.ref df) ∧ IO w od c ∧ c.length ≤ i ∧ Good c ∧ PO o' cl seat' rest' ∧ 0 ≤ seat' ∧ seat' ≤ seat + 1 + 2 * i ∧ 0 ≤ rest')
      ⟨emptyDict, [], o4, seat4, rest4, rfl, rfl, rfl, IO.nil, Nat.zero_le _, (fun _ h => by cases h), P4, s0, by omega, r0⟩ ?_ ?_
    · rintro i v g1 m1 V1 I oI h tk hi ⟨t, rfl⟩ le ⟨od, c, o', seat', rest', rfl, m1p, m1f, Hc, hlen, Hg, P', q0, q1, q2⟩ F8
      have hcl1 := hcl5.keeps le
      iterate 13 walk1
      rename_i h6 F6
      refine draw_at (V1 := [(I, oI), (df, od), q]) (V2 := V) (by assumption) F6 ((R' _).le (by omega)) P' hcl1 hz q0 (by omega) q2 (by omega) (by omega) ?_
      intro g7 h7 tk7 gl t7 o7 seat7 rest7 F7 l7 P7 k70 k71 s70 s71 r70
      have hcl7 := hcl1.keeps l7
      clear F8 F6
      iterate 14 walk1
      rename_i h8 F8
      refine draw_at (V1 := [(I, oI), (df, od), q]) (V2 := V) (by assumption) F8 ((R' _).le (by omega)) P7 hcl7 hz s70 (by omega) r70 (by omega) (by omega) ?_
      intro g9 h9 tk9 cv t9 o9 seat9 rest9 F9 l9 P9 k90 k91 s90 s91 r90
      clear F7 F8
      iterate 3 walk1
      refine io_set (V1 := [(I, oI)]) (V2 := q :: (p, o9) :: V) F9 Hc (by omega) ?_
      intro hB odB tkB HcB FB
      iterate 1 walk1
      refine Turn.next [] FB (Le.trans' l7 l9) ?_
      have := putI_len c gl (1 + cv)
      exact ⟨odB, _, o9, seat9, rest9, rfl, m1p, m1f, HcB, by omega, Hg.put k70 k71 (by omega) (by omega), P9, s90, by omega, r90⟩
    · rintro g1 m1 V1 h tk le ⟨od, c, o', seat', rest', rfl, m1p, m1f, Hc, hlen, Hg, P', q0, q1, q2⟩ F8
      obtain ⟨g9, F9, l9, e9⟩ := F8.freezeV
      have HID : ID w g9 df c := by
        obtain ⟨kvs, z1, z2⟩ := Hc
        exact ⟨lof, kvs, Heap.dictOf_iff.mpr ⟨od, e9, z1⟩, z2⟩
      clear F8 F5
      iterate 3 walk1
      exact EndV.ret [] F9 (Le.trans' l4 (Le.trans' l5 (Le.trans' le l9))) ⟨df, c, o', seat', rest', rfl, rfl, HID, Hg, P', q0, by omega, q2⟩
  · rintro g' h' tk V' v F' l ⟨d, c, o', seat', rest', rfl, rfl, a0, a1, a2, a3, a4, a5⟩
    exact h g' h' tk d c o' seat' rest' F' l a0 a1 a2 a3 a4 a5
end
end
section
open PySem PySem.W PyProof.Rows PySem.Calls
set_option maxRecDepth 100000
set_option maxHeartbeats 4000000
/-- the hash of a pair -/
def Hp (k : List Int) : Int := reduceHash (Builtin.Tuple.tupleHashOf (k.map hashInt))
def p16 : List (List Int) := [0, 1, 2, 3].flatMap fun (a : Int) => [0, 1, 2, 3].map fun (b : Int) => [a, b]
theorem hp_inj : ∀ p ∈ p16, ∀ q ∈ p16, Hp p = Hp q → p = q := by decide +kernel

theorem pigeon : ∀ (n : Nat) (l : List Nat), (∀ j, j < n → j ∈ l) → n ≤ l.length
  | 0, _, _ => Nat.zero_le _
  | n + 1, l, h => by
    have hm : n ∈ l := h n (Nat.lt_succ_self n)
    have := pigeon n (l.erase n) fun j hj => (List.mem_erase_of_ne (Nat.ne_of_lt hj)).mpr (h j (Nat.lt_succ_of_lt hj))
    rw [List.length_erase_of_mem hm] at this
    have := List.length_pos_of_mem hm
    omega

/-! the probe -/
def adv (mask : Nat) (p : SetTable.Probe) : SetTable.Probe :=
  if p.more > 0 then { p with j := p.j + 1, more := p.more - 1 } else
  let (i, perturb) := SetTable.leap mask p.i p.perturb
  { p with j := i, more := SetTable.runEnd mask i - i, i, perturb }
def pjs (mask : Nat) : Nat → SetTable.Probe → List Nat
  | 0, _ => []
  | n + 1, p => p.j :: pjs mask n (adv mask p)
def pst (mask : Nat) (h : Int) : SetTable.Probe :=
  let i := SetTable.bits h % (mask + 1)
  { j := i, more := SetTable.runEnd mask i - i, i, perturb := SetTable.bits h, dummy := none }
def cov (mask : Nat) : Bool := p16.all fun p => (List.range (mask + 1)).all fun j => (pjs mask (10 * SetTable.turns mask) (pst mask (Hp p))).contains j
theorem cov7 : cov 7 = true := by decide +kernel
theorem cov31 : cov 31 = true := by decide +kernel

theorem slot_cases (t : SetTable) (hd : t.dummies = #[]) (j : Nat) : t.slot j = .empty ∨ ∃ i, t.slot j = .live i ∧ t.place[i]? = some j := by
  unfold SetTable.slot
  dsimp only
  by_cases h : (t.place[SetTable.below t.place j]? == some j) = true
  · rw [if_pos h]
    exact .inr ⟨_, rfl, by simpa using h⟩
  · rw [if_neg h]
    have : SetTable.has t.dummies j = false := by rw [hd]; rfl
    rw [this]
    exact .inl rfl
theorem go_empty {t : SetTable} {hashAt : Nat → Int} {h : Int} (hd : t.dummies = #[]) (hno : ∀ i, i < t.place.size → hashAt i ≠ h) :
    ∀ (n fuel : Nat) (p : SetTable.Probe), n ≤ fuel → p.dummy = none → (∃ j ∈ pjs t.mask n p, t.slot j = .empty) → ∃ j, SetTable.probe.go t hashAt h fuel p = some (.empty j none) := by
  intro n
  induction n with
  | zero => intro fuel p _ _ ⟨j, hj, _⟩; cases hj
  | succ n ih =>
    intro fuel p hf hp hx
    cases fuel with
    | zero => omega
    | succ fuel =>
      unfold SetTable.probe.go
      rcases slot_cases t hd p.j with e | ⟨i, e, hi⟩
      · rw [e]; exact ⟨p.j, by rw [hp]⟩
      · rw [e]
        dsimp only
        rw [if_neg (by simpa using hno i (Array.getElem?_eq_some_iff.mp hi).1)]
        refine ih fuel _ (by omega) ?_ ?_
        · show (adv t.mask p).dummy = none
          unfold adv; split <;> exact hp
        · obtain ⟨j, hj, q⟩ := hx
          rcases List.mem_cons.mp hj with rfl | hj
          · rw [e] at q; cases q
          · exact ⟨j, hj, q⟩
theorem probe_empty {t : SetTable} {hashAt : Nat → Int} {k : List Int} (hk : k ∈ p16) (hm : t.mask = 7 ∨ t.mask = 31) (hd : t.dummies = #[]) (hs : t.place.size ≤ t.mask) (hno : ∀ i, i < t.place.size → hashAt i ≠ Hp k) :
    ∃ j, t.probe hashAt (Hp k) (t.probeStart (Hp k)) = some (.empty j none) := by
  have hc : cov t.mask = true := by rcases hm with e | e <;> rw [e]; exact cov7; exact cov31
  have hc := List.all_eq_true.mp hc k hk
  refine go_empty hd hno (10 * SetTable.turns t.mask) _ _ (Nat.le_refl _) rfl ?_
  apply Classical.byContradiction
  intro hno2
  have : ∀ j, j < t.mask + 1 → j ∈ t.place.toList := by
    intro j hj
    have h1 := List.all_eq_true.mp hc j (List.mem_range.mpr hj)
    rw [List.contains_iff_mem] at h1
    apply Classical.byContradiction
    intro h2
    rcases slot_cases t hd j with e | ⟨i, e, hi⟩
    · exact hno2 ⟨j, h1, e⟩
    · exact h2 (List.mem_of_getElem? (by rw [Array.getElem?_toList]; exact hi))
  have := pigeon _ _ this
  rw [Array.length_toList] at this
  omega

/-! the table laid anew -/
abbrev som (l : List (Option Nat)) : List Nat := l.filterMap id
theorem som_set : ∀ (l : List (Option Nat)) (j k : Nat), l[j]? = some none → (som (l.set j (some k))).length = (som l).length + 1 ∧ ∀ v ∈ som (l.set j (some k)), v = k ∨ v ∈ som l
  | [], j, k, h => by simp at h
  | x :: l, 0, k, h => by
    simp at h; subst h
    refine ⟨by simp [som], fun v hv => ?_⟩
    simp [som] at hv ⊢
    exact hv
  | x :: l, j + 1, k, h => by
    simp at h
    obtain ⟨h1, h2⟩ := som_set l j k h
    rw [List.set_cons_succ]
    cases x with
    | none =>
      simp only [som, List.filterMap_cons, id] at h1 h2 ⊢
      exact ⟨h1, h2⟩
    | some y =>
      simp only [som, List.filterMap_cons, id, List.length_cons, List.mem_cons] at h1 h2 ⊢
      refine ⟨by omega, fun v hv => ?_⟩
      rcases hv with rfl | hv
      · exact .inr (.inl rfl)
      · rcases h2 v hv with q | q
        · exact .inl q
        · exact .inr (.inr q)
def runs (mask : Nat) : Nat → Nat → Nat → List Nat
  | 0, _, _ => []
  | n + 1, i, pt => ((List.range (SetTable.runEnd mask i + 1 - i)).map (i + ·)) ++ (let (i, pt) := SetTable.leap mask i pt; runs mask n i pt)
def covR (mask : Nat) : Bool := p16.all fun p => (List.range (mask + 1)).all fun j => (runs mask (SetTable.turns mask) (SetTable.bits (Hp p) % (mask + 1)) (SetTable.bits (Hp p))).contains j
theorem covR31 : covR 31 = true := by decide +kernel
theorem free_some {mask : Nat} {owner : Array (Option Nat)} : ∀ (fuel i pt : Nat), (∃ j ∈ runs mask fuel i pt, owner[j]? = some none) → ∃ j, SetTable.layClean.free mask owner fuel i pt = some j ∧ owner[j]? = some none
  | 0, i, pt, ⟨j, hj, _⟩ => by cases hj
  | n + 1, i, pt, ⟨j, hj, hn⟩ => by
    unfold SetTable.layClean.free
    have get : ∀ k, (owner.getD (i + k) (some 0)).isNone = true ↔ owner[i + k]? = some none := by
      intro k
      rw [Array.getD_eq_getD_getElem?]
      cases e : owner[i + k]? with
      | none => simp
      | some x => cases x <;> simp
    cases e : (List.range (SetTable.runEnd mask i + 1 - i)).find? fun k => (owner.getD (i + k) (some 0)).isNone with
    | some k =>
      have := List.find?_some e
      exact ⟨i + k, rfl, (get k).mp this⟩
    | none =>
      dsimp only
      refine free_some n _ _ ⟨j, ?_, hn⟩
      rw [runs, List.mem_append] at hj
      rcases hj with q | q
      · obtain ⟨k, hk, rfl⟩ := List.mem_map.mp q
        have := List.find?_eq_none.mp e k hk
        exact absurd ((get k).mpr hn) this
      · exact q
def stepL (mask : Nat) (acc : Option (Array (Option Nat) × Nat)) (h : Int) : Option (Array (Option Nat) × Nat) := do
  let (owner, k) ← acc
  let j ← SetTable.layClean.free mask owner (SetTable.turns mask) (SetTable.bits h % (mask + 1)) (SetTable.bits h)
  pure (owner.setIfInBounds j (some k), k + 1)
theorem fold_some : ∀ (hs : List Int) (owner : Array (Option Nat)) (k : Nat), (∀ h ∈ hs, ∃ p ∈ p16, h = Hp p) → owner.size = 32 → (som owner.toList).length = k → (∀ v ∈ som owner.toList, v < k) → k + hs.length ≤ 31 →
    ∃ owner', hs.foldl (stepL 31) (some (owner, k)) = some (owner', k + hs.length) ∧ owner'.size = 32 ∧ (som owner'.toList).length = k + hs.length ∧ ∀ v ∈ som owner'.toList, v < k + hs.length
  | [], owner, k, _, h1, h2, h3, _ => ⟨owner, rfl, h1, h2, h3⟩
  | h :: hs, owner, k, hh, h1, h2, h3, h4 => by
    obtain ⟨p, hp, rfl⟩ := hh h (.head _)
    rw [List.length_cons] at h4 ⊢
    have hc := List.all_eq_true.mp covR31 p hp
    have : ∃ j ∈ runs 31 (SetTable.turns 31) (SetTable.bits (Hp p) % 32) (SetTable.bits (Hp p)), owner[j]? = some none := by
      apply Classical.byContradiction
      intro hno
      have all : ∀ x ∈ owner.toList, x.isSome = true := by
        intro x hx
        obtain ⟨j, hj⟩ := List.mem_iff_getElem?.mp hx
        cases x with
        | some _ => rfl
        | none =>
          have hlt : j < 32 := by rw [← h1, ← Array.length_toList]; exact (List.getElem?_eq_some_iff.mp hj).1
          have h5 := List.all_eq_true.mp hc j (List.mem_range.mpr hlt)
          rw [List.contains_iff_mem] at h5
          exact absurd ⟨j, h5, by rw [← Array.getElem?_toList]; exact hj⟩ hno
      have len : ∀ l : List (Option Nat), (∀ x ∈ l, x.isSome = true) → (som l).length = l.length := by
        intro l
        induction l with
        | nil => intro _; rfl
        | cons x l ih =>
          intro h
          obtain ⟨y, rfl⟩ := Option.isSome_iff_exists.mp (h x (.head _))
          simp only [som, List.filterMap_cons, id, List.length_cons] at ih ⊢
          rw [ih fun x hx => h x (.tail _ hx)]
      have h5 := len _ all
      have h6 : owner.toList.length = 32 := by rw [Array.length_toList, h1]
      omega
    obtain ⟨j, e, hj⟩ := free_some _ _ _ this
    have st : stepL 31 (some (owner, k)) (Hp p) = some (owner.setIfInBounds j (some k), k + 1) := by
      unfold stepL
      simp only [Option.bind_eq_bind, Option.bind_some]
      rw [e]; rfl
    rw [List.foldl_cons, st]
    have hj' : owner.toList[j]? = some none := by rw [Array.getElem?_toList]; exact hj
    obtain ⟨s1, s2⟩ := som_set owner.toList j k hj'
    have tl : (owner.setIfInBounds j (some k)).toList = owner.toList.set j (some k) := by simp
    obtain ⟨o', q1, q2, q3, q4⟩ := fold_some hs (owner.setIfInBounds j (some k)) (k + 1) (fun h hx => hh h (.tail _ hx)) (by rw [Array.size_setIfInBounds]; exact h1) (by rw [tl, s1, h2]) (by
      rw [tl]
      intro v hv
      rcases s2 v hv with rfl | q
      · omega
      · have := h3 v q; omega) (by omega)
    exact ⟨o', by rw [q1]; congr 2; omega, q2, by omega, fun v hv => by have := q4 v hv; omega⟩
theorem layClean_eq (mask : Nat) (hs : Array Int) : SetTable.layClean mask hs = (hs.toList.foldl (stepL mask) (some (Array.replicate (mask + 1) none, 0))).map (·.1) := by
  unfold SetTable.layClean
  rw [← Array.foldl_toList]
  rfl
theorem relaid_some {t : SetTable} {hs : Array Int} (hp : ∀ h ∈ hs.toList, ∃ p ∈ p16, h = Hp p) (hz : hs.size ≤ 31) (w : Nat) (hw : SetTable.sizeAbove w = 32) :
    ∃ t' order, t.relaid hs w = some (t', order) ∧ t'.mask = 31 ∧ t'.dummies = #[] ∧ t'.place.size = hs.size ∧ order.size = hs.size ∧ ∀ v ∈ order.toList, v < hs.size := by
  unfold SetTable.relaid SetTable.laid
  rw [hw]
  dsimp only
  obtain ⟨o', q1, q2, q3, q4⟩ := fold_some hs.toList (Array.replicate 32 none) 0 hp (by simp) (by simp [som]) (by simp [som]) (by simpa using hz)
  rw [layClean_eq, show (32 : Nat) - 1 = 31 from rfl, q1]
  simp only [Option.map_some, Option.bind_eq_bind, Option.bind_some]
  have el : (((List.range 32).filterMap fun j => (o'.getD j none).map (j, ·)).map (·.2)) = som o'.toList := by
    have e1 : (List.range 32).map (fun j => o'.getD j none) = o'.toList := by
      apply List.ext_getElem?
      intro i
      rw [List.getElem?_map]
      by_cases h : i < 32
      · rw [List.getElem?_range h, Array.getElem?_toList]
        rw [← q2] at h
        simp [h]
      · rw [List.getElem?_eq_none (by simp; omega), List.getElem?_eq_none (by rw [Array.length_toList, q2]; omega)]; rfl
    rw [← e1, som, List.filterMap_map, List.map_filterMap]
    congr 1
    funext j
    simp only [Function.comp, id, Option.map_map]
    cases o'.getD j none <;> rfl
  have ll : ((List.range 32).filterMap fun j => (o'.getD j none).map (j, ·)).length = hs.size := by
    rw [← List.length_map (f := (·.2)), el, q3]; simp
  refine ⟨_, _, rfl, rfl, rfl, ?_, ?_, ?_⟩
  · simpa using ll
  · simpa using ll
  · rw [List.toList_toArray, el]
    intro v hv
    have := q4 v hv
    simpa using this
end
section
open PySem PySem.W PyProof.Rows PySem.Calls
set_option maxRecDepth 100000
set_option maxHeartbeats 1000000
/-- a set of pairs, all of the sixteen -/
def SetP (h : Heap) (a : Addr) (ks : List (List Int)) : Prop := ∃ o es ep t, h.get? a = some o ∧ o.ExactSet ∧ o.data = .set es ep t ∧ es.size = ks.length ∧
  (∀ e ∈ es.toList, ∃ k ∈ ks, e.1 = Hp k) ∧ t.fits es.size = true ∧ t.mask = (if ks.length < 5 then 7 else 31) ∧ t.dummies = #[]
section
variable {w : World} {A : Around} {E : Value → Shared → Prop} {s : Shared} {a x : Addr} {ks : List (List Int)} {k : List Int}

theorem wpAny_hashByValue_tup {Q : Bool → Shared → Prop} (hk : IsTupleKey (intKind pg w) s.heap k x) (h : Q true s) : wpAny (model pg w) A (hashByValue 8 (.ref x)) Q E s := by
  have hT := hk.typeIs
  obtain ⟨o, items, n, ho, _, hd, hi⟩ := hk
  unfold hashByValue
  refine wpAny_bind (wpAny_specialOf hT F.slot_tuple_hash.lookup ?_)
  dsimp only
  refine wpAny_bind (wpAny_seqItems ho hd ?_)
  dsimp only [Option.getD_some]
  refine wpAny_bind ?_
  rw [← Array.forIn_toList]
  refine wpAny_forIn_list _ (fun rest r s' => r.1 = none ∧ s' = s ∧ ∀ v ∈ rest, ∃ m t, v = Value.int m t) _ ?_ ?_ _ _ ⟨rfl, rfl, ?_⟩
  · rintro v rest r s' ⟨hr, rfl, hall⟩
    obtain ⟨m, t, rfl⟩ := hall v List.mem_cons_self
    refine wpAny_bind (show wpAny _ _ (pure true) _ _ _ from wpAny_pure ?_)
    simp only [Bool.not_true, Bool.false_eq_true, if_false]
    exact wpAny_pure ⟨rfl, rfl, fun u hu' => hall u (List.mem_cons_of_mem _ hu')⟩
  · rintro ⟨r1, r2⟩ s' ⟨hr, rfl, _⟩
    simp only at hr
    subst hr
    exact wpAny_pure h
  · have : ∀ {ks : List Int} {vs : List Value}, PySem.ItemsAre (intKind pg w) ks vs → ∀ v ∈ vs, ∃ m t, v = Value.int m t := by
      intro ks vs hi
      induction hi with
      | nil => intro v hv; cases hv
      | cons h1 _ ih =>
        intro v hv
        rcases List.mem_cons.mp hv with rfl | hv
        · obtain ⟨t, rfl⟩ := Value.isInt_shape h1; exact ⟨_, t, rfl⟩
        · exact ih v hv
    exact this hi

theorem insertAt_toList {α : Type} (xs : Array α) (p : Nat) (x : α) : (SetTable.insertAt xs p x).toList = xs.toList.take p ++ x :: xs.toList.drop p := by
  unfold SetTable.insertAt
  rw [Array.toList_append, Array.toList_push, Array.toList_extract, Array.toList_extract, List.extract_eq_take_drop, List.extract_eq_take_drop]
  simp
  exact List.take_of_length_le (by simp)
theorem insertAt_size {α : Type} (xs : Array α) (p : Nat) (x : α) : (SetTable.insertAt xs p x).size = xs.size + 1 := by
  rw [← Array.length_toList, insertAt_toList, List.length_append, List.length_cons, List.length_take, List.length_drop, Array.length_toList]; omega
theorem insertAt_mem {α : Type} {xs : Array α} {p : Nat} {x y : α} (h : y ∈ (SetTable.insertAt xs p x).toList) : y = x ∨ y ∈ xs.toList := by
  rw [insertAt_toList] at h
  rcases List.mem_append.mp h with q | q
  · exact .inr (List.mem_of_mem_take q)
  · rcases List.mem_cons.mp q with rfl | q
    · exact .inl rfl
    · exact .inr (List.mem_of_mem_drop q)

theorem storeP {h : Heap} {o : Obj} {es es' : Array (Int × Value)} {ep : Nat} {t t' : SetTable} (ho : h.get? a = some o) (hd : o.data = .set es ep t) :
    (h.update a (Obj.putSet es' t')).get? a = some { o with data := .set es' (ep + 1) t' } := by
  have := Heap.get?_update_self (Obj.putSet es' t') ho (by rw [putSet_of es' t' hd]; rfl)
  rw [putSet_of es' t' hd] at this; exact this
theorem fits_iff {t : SetTable} {n : Nat} : t.fits n = true ↔ t.place.size = n ∧ t.fill ≤ t.mask := by
  unfold SetTable.fits; simp

theorem setAdd_pair {Q : Bool → Shared → Prop} (hu : A.units < cLine) (hS : SetP s.heap a ks) (hne : a ≠ x) (hk : IsTupleKey (intKind pg w) s.heap k x) (hks : ∀ q ∈ ks, q ∈ p16) (hk16 : k ∈ p16) (hn : k ∉ ks) (hl : ks.length ≤ 15)
    (h : ∀ h' tk, Heap.SameBut a s.heap h' → SetP h' a (ks ++ [k]) → Q true { s with heap := h', toks := tk }) : wpAny (model pg w) A (setAdd a (.ref x)) Q E s := by
  obtain ⟨o, es, ep, t, ho, hex, hd, hsz, hes, hf, hm, hdm⟩ := hS
  have hT : IsTupleKey (intKind pg w) s.heap k x := hk
  obtain ⟨hf1, hf2⟩ := fits_iff.mp hf
  unfold setAdd
  refine wpAny_holding (wpAny_bind (wpAny_pyHash_tuple hu hk ?_))
  show wpAny _ _ (setAddHashed a (.ref x) (Hp k)) _ _ _
  generalize s.toks + (k.length + 1) = tk0
  unfold setAddHashed setAddHashedIn
  refine wpAny_holding (wpAny_bind (wpAny_setState_of (s := { s with toks := tk0 }) ho hd hf ?_))
  dsimp only
  rw [show byScan (.ref x) es = false from rfl]
  simp only [Bool.false_eq_true, ↓reduceIte]
  -- the search
  have hm2 : t.mask = 7 ∨ t.mask = 31 := by rw [hm]; split <;> simp
  have hpl : t.place.size ≤ t.mask := by rw [hf1, hsz, hm]; split <;> omega
  have hno : ∀ i, i < t.place.size → (es[i]?.map (·.1)).getD 0 ≠ Hp k := by
    intro i hi
    rw [hf1] at hi
    rw [Array.getElem?_eq_getElem hi]
    simp only [Option.map_some, Option.getD_some]
    intro e
    obtain ⟨q, hq, e2⟩ := hes es[i] (by simp)
    rw [e2] at e
    exact hn (hp_inj q (hks q hq) k hk16 e ▸ hq)
  obtain ⟨j, hj⟩ := probe_empty hk16 hm2 hdm hpl hno
  have hg : t.gaveWay = false := by unfold SetTable.gaveWay; rcases hm2 with e | e <;> rw [e] <;> rfl
  unfold setSearch setSearchFrom
  refine wpAny_bind (wpAny_bind (wpAny_setState_of (s := { s with toks := tk0 }) ho hd hf ?_))
  dsimp only
  rw [hg]
  simp only [Bool.false_eq_true, ↓reduceIte]
  generalize hpr : t.probe _ _ _ = pr
  have epr : pr = some (.empty j none) := hpr.symm.trans hj
  rw [epr]
  dsimp only
  refine wpAny_pure ?_
  dsimp only
  refine wpAny_bind (wpAny_setState_of (s := { s with toks := tk0 }) ho hd hf ?_)
  dsimp only
  -- the table with the new place
  have put1 : (t.put j).1.place.size = ks.length + 1 := by
    show (SetTable.insertAt _ _ _).size = _
    rw [insertAt_size, hf1, hsz]
  have put2 : (t.put j).1.dummies = #[] := by
    show (if SetTable.has t.dummies j then _ else t.dummies) = _
    rw [show SetTable.has t.dummies j = false by rw [hdm]; rfl]
    exact hdm
  have put3 : (t.put j).1.mask = t.mask := rfl
  have es1 : (SetTable.insertAt es (t.put j).2 (Hp k, Value.ref x)).size = ks.length + 1 := by rw [insertAt_size, hsz]
  have es2 : ∀ e ∈ (SetTable.insertAt es (t.put j).2 (Hp k, Value.ref x)).toList, ∃ q ∈ ks ++ [k], e.1 = Hp q := by
    intro e he
    rcases insertAt_mem he with rfl | q
    · exact ⟨k, by simp, rfl⟩
    · obtain ⟨q, hq, e2⟩ := hes e q
      exact ⟨q, List.mem_append_left _ hq, e2⟩
  generalize (t.put j).1 = t1 at put1 put2 put3 ⊢
  generalize SetTable.insertAt es (t.put j).2 (Hp k, Value.ref x) = esn at es1 es2 ⊢
  have tail : ∀ t2 : SetTable, t2.place.size = ks.length + 1 → t2.dummies = #[] → t2.mask = t.mask → wpAny (model pg w) A (do
      storeSet a esn t2
      if (!false && t2.tooFull) = true then do
        setRelay a (SetTable.grown (es.size + 1))
        pure true
      else pure true) Q E { s with toks := tk0 } := by
    intro t2 a1 a2 a3
    have fill2 : t2.fill = ks.length + 1 := by unfold SetTable.fill; rw [a1, a2]; rfl
    have fit2 : t2.fits esn.size = true := fits_iff.mpr ⟨by rw [a1, es1], by rw [fill2, a3, hm]; split <;> omega⟩
    refine wpAny_bind (wpAny_storeSet_of (s := { s with toks := tk0 }) ho hd ?_ (by rw [es1, sizeLine_eq]; omega))
    have ho2 := storeP (es' := esn) (t' := t2) ho hd
    have sb1 := Heap.SameBut.update s.heap a (Obj.putSet esn t2)
    by_cases h5 : ks.length = 4
    · have tf : t2.tooFull = true := by unfold SetTable.tooFull; rw [fill2, a3, hm, h5]; decide
      rw [tf]
      simp only [Bool.not_false, Bool.and_self, ↓reduceIte]
      have hsa : SetTable.sizeAbove (SetTable.grown (es.size + 1)) = 32 := by rw [hsz, h5]; decide
      obtain ⟨t3, order, r1, r2, r3, r4, r5, r6⟩ := relaid_some (t := t2) (hs := esn.map (·.1)) (by
        intro x hx
        rw [Array.toList_map] at hx
        obtain ⟨e, he, rfl⟩ := List.mem_map.mp hx
        obtain ⟨q, hq, e2⟩ := es2 e he
        refine ⟨q, ?_, e2⟩
        rcases List.mem_append.mp hq with z | z
        · exact hks q z
        · rw [List.mem_singleton.mp z]; exact hk16) (by rw [Array.size_map, es1]; omega) _ hsa
      rw [Array.size_map] at r4 r5 r6
      have ord : (order.filterMap (esn[·]?)).size = esn.size := by
        rw [← Array.length_toList, Array.toList_filterMap]
        have : ∀ l : List Nat, (∀ v ∈ l, v < esn.size) → (l.filterMap (esn[·]?)).length = l.length := by
          intro l
          induction l with
          | nil => intro _; rfl
          | cons v l ih =>
            intro hv
            rw [List.filterMap_cons, Array.getElem?_eq_getElem (hv v (.head _))]
            simp only [List.length_cons]
            rw [ih fun u hu => hv u (.tail _ hu)]
        rw [this _ r6, Array.length_toList, r5]
      unfold setRelay
      refine wpAny_bind (wpAny_bind (wpAny_setState_of (s := { s with toks := tk0, heap := s.heap.update a (Obj.putSet esn t2) }) ho2 rfl fit2 ?_))
      dsimp only
      rw [hsa, if_neg (by rw [sizeLine_eq]; decide)]
      rw [r1]
      have hbne : ((order.filterMap (esn[·]?)).size != esn.size) = false := by rw [ord]; simp
      refine wpAny_bind (show wpAny _ _ (if ((order.filterMap (esn[·]?)).size != esn.size) = true then (unsupported "internal:set-table-lost-an-element" >>= fun _ => pure (order.filterMap (esn[·]?), t3)) else pure (order.filterMap (esn[·]?), t3)) _ _ _ from ?_)
      rw [hbne]
      simp only [Bool.false_eq_true, ↓reduceIte]
      refine wpAny_pure ?_
      have fit3 : t3.fits (order.filterMap (esn[·]?)).size = true := fits_iff.mpr ⟨by rw [r4, ord], by unfold SetTable.fill; rw [r3, r4, r2, es1]; simp; omega⟩
      refine wpAny_storeSet_of (s := { s with toks := tk0, heap := s.heap.update a (Obj.putSet esn t2) }) ho2 rfl ?_ (by rw [ord, es1, sizeLine_eq]; omega)
      have ho3 := storeP (es' := order.filterMap (esn[·]?)) (t' := t3) ho2 rfl
      refine wpAny_pure (h _ tk0 (sb1.trans (Heap.SameBut.update _ a _)) ⟨_, _, _, t3, ho3, ⟨hex.1, hex.2.1, hex.2.2⟩, rfl, by rw [ord, es1]; simp, ?_, fit3, by rw [r2]; simp [h5], r3⟩)
      intro e he
      rw [Array.toList_filterMap] at he
      obtain ⟨v, hv, e2⟩ := List.mem_filterMap.mp he
      exact es2 e (List.mem_of_getElem? (by rw [Array.getElem?_toList]; exact e2))
    · have tf : t2.tooFull = false := by
        unfold SetTable.tooFull; rw [fill2, a3, hm]
        split
        · exact decide_eq_false (by omega)
        · exact decide_eq_false (by omega)
      rw [tf]
      simp only [Bool.not_false, Bool.and_false, Bool.false_eq_true, ↓reduceIte]
      refine wpAny_pure (h _ tk0 sb1 ⟨_, esn, _, t2, ho2, ⟨hex.1, hex.2.1, hex.2.2⟩, rfl, by rw [es1]; simp, es2, fit2, ?_, a2⟩)
      rw [a3, hm, List.length_append, List.length_singleton]
      by_cases z : ks.length < 5
      · rw [if_pos z, if_pos (by omega)]
      · rw [if_neg z, if_neg (by omega)]
  split
  · refine wpAny_bind (wpAny_hashByValue_tup (s := { s with toks := tk0 }) hk ?_)
    exact tail _ put1 put2 put3
  · refine wpAny_bind (wpAny_pure ?_)
    exact tail _ put1 put2 put3
end
end
section
open PySem PySem.W PyProof.Rows PySem.Calls
set_option maxRecDepth 100000
set_option maxHeartbeats 4000000
section
variable {w : World} {A : Around} {E : Value → Shared → Prop} {s : Shared} {base g : Heap} {L : Addr} {m : Str → Option Value} {V : List (Addr × Obj)}

/-- what a set gathers, place by place -/
structure Gather (w : World) (g : Heap) (n : Nat) (P : Nat → Value → Prop) (Acc : Nat → Heap → Addr → Prop) : Prop where
  zero : ∀ h a led, h.get? a = some { cls := .type "set", dict := none, data := .set #[] 0 (.fresh 0 0 led) } → Acc 0 h a
  at' : ∀ i h a, Acc i h a → ∃ o, h.get? a = some o
  keep : ∀ i h h' a, Acc i h a → (∀ o, h.get? a = some o → h'.get? a = some o) → Acc i h' a
  add : ∀ (A : Around) i v (s : Shared) a (Q : Shared → Prop) (E : Value → Shared → Prop), A.units < cLine → i < n → P i v → Acc i s.heap a → Le g s.heap → g.get? a = none →
    (∀ h' tk, Heap.SameBut a s.heap h' → Acc (i + 1) h' a → Q { s with heap := h', toks := tk }) → wpAny (model pg w) A (setAdd a v) (fun _ => Q) E s

theorem set_loop {n : Nat} {P : Nat → Value → Prop} {Acc : Nat → Heap → Addr → Prop} {St : Nat → Heap → Prop} {I a : Addr} {fp : List Addr} {R : Result → Shared → Prop} (G : Gather w g n P Acc) (hu : A.in1.units < cLine) (W : Walks pg w A.in1 I fp [I] n P St)
    (hIo : ∀ i h, St i h → ∃ o, h.get? I = some o) (hfp : ∀ b ∈ fp, b = I ∨ ∃ o, g.get? b = some o)
    (R0 : ∀ h' tk oa, Fm base g L m ((a, oa) :: V) h' → Acc n h' a → R (.ok (.ret .none)) { s with heap := h', toks := tk }) :
    ∀ (k i : Nat) h tk oI oa, n - i = k → i ≤ n → St i h → Fm base g L m ((I, oI) :: (a, oa) :: V) h → Acc i h a → codeAny (model pg w) A (.builtin "set.update.loop" ⟨[.ref a, .ref I], []⟩) R { s with heap := h, toks := tk } := by
  intro k
  induction k with
  | zero =>
    intro i h tk oI oa hk hi st F hA
    have hin : i = n := by omega
    subst hin
    refine codeAny_builtin PyProof.Rows.F.entry_set_update_loop ?_
    rw [Around.under_plainId PyProof.Rows.F.plain_set_update_loop _]
    show wpAny _ A.in1 (pyNext (.ref I) >>= _) _ _ _
    refine wpAny_bind (W.done _ _ _ st fun h₁ tk₁ hk₁ => ?_)
    show wpAny _ A.in1 (ret Value.none) _ _ _
    have aI : a ≠ I := by
      have := F.nd
      intro e
      simp [e] at this
    have Fa : Fm base g L m ((a, oa) :: (I, oI) :: V) h := F.perm (List.Perm.swap _ _ _)
    refine wpAny_pure ?_
    have D := F.drop
    have off := F.off (I, oI) (.head _)
    have nd := F.nd
    rw [List.map_cons, List.nodup_cons, List.nodup_cons, List.mem_cons, not_or] at nd
    have up : Le g h₁ := fun b o e => hk₁ b o (by simp; rintro rfl; rw [off] at e; cases e) (F.le _ _ e)
    have FF : Fm base g L m ((a, oa) :: V) h₁ :=
      { F := ⟨F.F.ns.at' fun o e => hk₁ _ o (by simpa using nd.1.1) e, Le.trans' F.leb up, F.F.above⟩, le := up, leb := F.leb, offL := F.offL,
        vol := fun p hp => hk₁ _ _ (by simp only [List.mem_singleton]; exact fun e => nd.2.1 (List.mem_map.mpr ⟨p, hp, e⟩)) (F.vol p (.tail _ hp)), off := D.off, nd := D.nd }
    exact R0 h₁ tk₁ oa FF (G.keep i h h₁ a hA fun o e => by
      have := F.vol (a, oa) (by simp)
      rw [this] at e; cases e
      exact FF.vol (a, oa) (by simp))
  | succ k ih =>
    intro i h tk oI oa hk hi st F hA
    have hlt : i < n := by omega
    refine codeAny_builtin PyProof.Rows.F.entry_set_update_loop ?_
    rw [Around.under_plainId PyProof.Rows.F.plain_set_update_loop _]
    show wpAny _ A.in1 (pyNext (.ref I) >>= _) _ _ _
    refine wpAny_bind (W.item i _ _ _ hlt st fun v h₁ tk₁ hP st₁ hk₁ => ?_)
    obtain ⟨oI', e'⟩ := hIo _ _ st₁
    have F₁ : Fm base g L m ((I, oI') :: (a, oa) :: V) h₁ := Fm.upd (V1 := []) F (fun b o hb e => hk₁ b o (by simpa using hb) e) e'
    have hA₁ : Acc i h₁ a := G.keep i h h₁ a hA fun o e => by
      have := F.vol (a, oa) (by simp)
      rw [this] at e; cases e
      exact F₁.vol (a, oa) (by simp)
    show wpAny _ A.in1 (holding [v] (setAdd a v) >>= _) _ _ _
    refine wpAny_bind (wpAny_holding ?_)
    refine G.add A.in1 i v { s with heap := h₁, toks := tk₁ } a _ _ hu hlt hP hA₁ F₁.le (F₁.off (a, oa) (by simp)) fun h₂ tk₂ hs₂ hA₂ => ?_
    obtain ⟨oa', ea⟩ : ∃ o, h₂.get? a = some o := G.at' _ _ _ hA₂
    have F₂ : Fm base g L m ((I, oI') :: (a, oa') :: V) h₂ := Fm.upd (V1 := [(I, oI')]) F₁ hs₂.extBut ea
    exact wpAny_pure ⟨plainId_quiet PyProof.Rows.F.plain_set_update_loop _, ih (i + 1) h₂ tk₂ oI' oa' (by omega) hlt (st_keep W st₁ F₁.le F₂.le e' (F₂.vol (I, oI') (by simp)) hfp) F₂ hA₂⟩

theorem call_set_gen {n : Nat} {P : Nat → Value → Prop} {Acc : Nat → Heap → Addr → Prop} {l : Addr} {T : String} {Q : Value → Shared → Prop} (G : Gather w g n P Acc) (R : Room A 0) (F : Fm base g L m V s.heap) (hT : ∃ o, g.get? l = some o ∧ o.cls = .type T)
    (hsls : isSubtype (.type T) (.type "set") = pure false) (hslf : isSubtype (.type T) (.type "frozenset") = pure false) (hne : (Value.type T == Value.type "dict") = false) (S : ∀ A : Around, A.handled = none → Src pg w A g (.ref l) n P)
    (k : ∀ h' tk a oa, Fm base g L m ((a, oa) :: V) h' → Acc n h' a → Q (.ref a) { s with heap := h', toks := tk }) :
    wpAny (model pg w) A (call (.type "set") [.ref l]) Q E s := by
  obtain ⟨c, tl, hmro⟩ := PySem.F.called_set.mro
  have hmade := PySem.F.called_set.made
  have hsub := PySem.F.called_set.sub
  refine wpAny_call (codeAny_of_tree ?_)
  show wpAny _ _ (callAny (.type "set") _) _ _ _
  refine wpAny_pure ⟨Code.quiet_builtin _ (by decide +kernel), codeAny_builtin PySem.F.entry_type_call ?_⟩
  rw [Around.under_plain (weight_type_call_type "set" [.ref l] []) rfl]
  have h1 := PySem.F.called_set.notType
  have h2 := PySem.F.called_set.canCreate
  have hct := PySem.F.typeCall_set_1 (.ref l)
  wp_delta
  ((with_reducible apply PySem.wpAny_ite_false); focus (rfl; done))
  ((with_reducible apply PySem.wpAny_ite_false); focus (rfl; done))
  with_reducible refine PySem.wpAny_bind ?_
  with_reducible refine PySem.wpAny_of_eq (by assumption) ?_
  with_reducible refine PySem.wpAny_bind ?_
  with_reducible refine PySem.wpAny_of_eq (by assumption) ?_
  ((with_reducible apply PySem.wpAny_ite_false); focus (rfl; done))
  with_reducible refine PySem.wpAny_bind ?_
  with_reducible refine PySem.wpAny_of_eq (by assumption) ?_
  with_reducible refine PySem.wpAny_bind ?_
  with_reducible refine PySem.wpAny_pure ?_
  with_reducible refine PySem.wpAny_bind ?_
  with_reducible refine PySem.wpAny_holding ?_
  with_reducible refine PySem.wpAny_call ?_
  refine codeAny_mono (code_set_new_1 (.ref l) (E := E) (Q₁ := fun obj s₁ => ∃ led : Bool, obj = .ref s.heap.objs.size ∧ s₁ = { s with heap := s.heap.push { cls := .type "set", dict := none, data := .set #[] 0 (.fresh 0 0 led) } }) fun led => ⟨led, rfl, rfl⟩) fun r s₁ hr => ?_
  cases r with
  | error e => exact hr
  | ok fl =>
    cases fl with
    | ret obj =>
      obtain ⟨led, rfl, rfl⟩ := hr
      have FS := F.allocV { cls := .type "set", dict := none, data := .set #[] 0 (.fresh 0 0 led) } rfl
      have hS := FS.vol (s.heap.objs.size, _) (.head _)
      dsimp only at hS
      generalize hH : s.heap.push { cls := .type "set", dict := none, data := .set #[] 0 (.fresh 0 0 led) } = H at FS hS ⊢
      generalize s.heap.objs.size = a at FS hS ⊢
      have hTs : Shared.TypeIs { s with heap := H } (.ref a) "set" := ⟨_, hS, rfl⟩
      have hli := PySem.F.called_set.init.lookup
      have hbi := PySem.F.called_set.init.bind (.ref a)
      with_reducible refine PySem.wpAny_bind ?_
      with_reducible refine PySem.wpAny_isInstance (by assumption) (by assumption) ?_
      ((with_reducible apply PySem.wpAny_ite_false); focus (rfl; done))
      with_reducible refine PySem.wpAny_bind ?_
      with_reducible refine PySem.wpAny_holding ?_
      wp_delta
      with_reducible refine PySem.wpAny_bind ?_
      with_reducible refine PySem.wpAny_specialOf (by assumption) (by assumption) ?_
      with_reducible refine PySem.wpAny_holding ?_
      with_reducible refine PySem.wpAny_bind ?_
      with_reducible refine PySem.wpAny_of_eq (by assumption) ?_
      with_reducible refine PySem.wpAny_bind ?_
      with_reducible refine PySem.wpAny_call ?_
      refine codeAny_mono (codeAny_call_builtin (R := wants (fun r s₂ => r = .none ∧ ∃ h' tk oa, s₂ = { s with heap := h', toks := tk } ∧ Fm base g L m ((a, oa) :: V) h' ∧ Acc n h' a) E) PySem.F.called_set.init.plain PySem.F.entry_set_init (check_set_init_1 hTs ?_)) fun r₂ s₂ hr₂ => ?_
      · obtain ⟨⟨oc, odict, odata, oslots⟩, hol, hcl⟩ := hT
        simp only at hcl
        subst hcl
        have hol' := FS.le _ _ hol
        unfold Builtin.«set.__init__» noKeywords Builtin.Frozenset.updateFrom
        generalize hPI : pyIter = PI
        with_reducible refine PySem.wpAny_bind ?_
        ((with_reducible apply PySem.wpAny_ite_true); focus (rfl; done))
        with_reducible refine PySem.wpAny_pure ?_
        wp_delta
        with_reducible refine PySem.wpAny_bind ?_
        wp_delta
        with_reducible refine PySem.wpAny_bind ?_
        wp_delta
        with_reducible refine PySem.wpAny_bind ?_
        with_reducible refine PySem.wpAny_typeOf (by assumption) ?_
        ((with_reducible apply PySem.wpAny_ite_false); focus (rfl; done))
        with_reducible refine PySem.wpAny_pure ?_
        wp_delta
        wp_delta
        with_reducible refine PySem.wpAny_pure ?_
        with_reducible refine PySem.wpAny_bind ?_
        wp_delta
        ((with_reducible apply PySem.wpAny_ite_false); focus (rfl; done))
        ((with_reducible apply PySem.wpAny_ite_false); focus (rfl; done))
        ((with_reducible apply PySem.wpAny_ite_false); focus (rfl; done))
        with_reducible refine PySem.wpAny_pure ?_
        with_reducible refine PySem.wpAny_bind ?_
        wp_delta
        with_reducible refine PySem.wpAny_pure ?_
        with_reducible refine PySem.wpAny_bind ?_
        wp_delta
        with_reducible refine PySem.wpAny_bind ?_
        wp_delta
        with_reducible refine PySem.wpAny_bind ?_
        ((with_reducible apply PySem.wpAny_load'); focus (heap_get; done))
        ((with_reducible apply PySem.wpAny_ite_false); focus (rfl; done))
        with_reducible refine PySem.wpAny_pure ?_
        with_reducible refine PySem.wpAny_pure ?_
        ((with_reducible apply PySem.wpAny_ite_false); focus (rfl; done))
        wp_delta
        with_reducible refine PySem.wpAny_bind ?_
        with_reducible refine PySem.wpAny_bind ?_
        wp_delta
        wp_delta
        with_reducible refine PySem.wpAny_bind ?_
        wp_delta
        with_reducible refine PySem.wpAny_bind ?_
        wp_delta
        with_reducible refine PySem.wpAny_bind ?_
        ((with_reducible apply PySem.wpAny_loadPart'); focus (heap_get; done))
        with_reducible refine PySem.wpAny_pure ?_
        with_reducible refine PySem.wpAny_of_eq (by assumption) ?_
        wp_delta
        wp_delta
        with_reducible refine PySem.wpAny_bind ?_
        wp_delta
        with_reducible refine PySem.wpAny_bind ?_
        ((with_reducible apply PySem.wpAny_loadPart'); focus (heap_get; done))
        with_reducible refine PySem.wpAny_pure ?_
        with_reducible refine PySem.wpAny_of_eq (by assumption) ?_
        ((with_reducible apply PySem.wpAny_ite_false); focus (rfl; done))
        with_reducible refine PySem.wpAny_bind ?_
        wp_delta
        with_reducible refine PySem.wpAny_bind ?_
        ((with_reducible apply PySem.wpAny_loadPart'); focus (heap_get; done))
        with_reducible refine PySem.wpAny_pure ?_
        ((with_reducible apply PySem.wpAny_ite_false); focus (simp [*]; done))
        with_reducible refine PySem.wpAny_bind ?_
        subst hPI
        refine wpAny_of_in1 ((S A.in1.in1.in1 (by simp [R.handled])).it FS fun I oI fp St h' W hIo hst F' hfp hown => ?_)
        refine wpAny_bind (wpAny_runValue ?_)
        refine set_loop (A := A.in1.in1) G (by have := R.units; show A.units + 1 + 1 + 1 < _; omega) W hIo hfp ?_ (n - 0) 0 h' _ oI _ rfl (Nat.zero_le _) hst F' (G.zero _ _ led (F'.vol (a, _) (by simp)))
        intro h2 tk2 oa F2 hA2
        show wpAny _ _ _ _ _ _
        refine wpAny_pure ?_
        show wpAny _ _ (ret Value.none) _ _ _
        exact wpAny_pure ⟨rfl, h2, tk2, oa, rfl, F2, hA2⟩
      · cases r₂ with
        | error e => exact hr₂
        | ok fl₂ =>
          cases fl₂ with
          | ret r =>
            obtain ⟨rfl, h', tk, oa, rfl, F', hA⟩ := hr₂
            with_reducible refine PySem.wpAny_pure ?_
            ((with_reducible apply PySem.wpAny_ite_false); focus (rfl; done))
            wp_delta
            wp_delta
            with_reducible refine PySem.wpAny_pure ?_
            exact k _ _ _ _ F' hA
          | _ => exact hr₂.elim
    | _ => exact hr.elim
end
end
section
open PySem PySem.W PyProof.Rows PySem.Calls
set_option maxRecDepth 100000
set_option maxHeartbeats 1000000
section
variable {w : World} {A : Around} {E : Value → Shared → Prop} {s : Shared} {base g g' : Heap} {L a v : Addr} {m : Str → Option Value} {V : List (Addr × Obj)}

theorem gather_pairs {ks : List (List Int)} (nd : ks.Nodup) (h16 : ∀ q ∈ ks, q ∈ p16) (hl : ks.length ≤ 16) : Gather w g ks.length (fun i v => ∃ d, (ks.map Dv.t)[i]? = some d ∧ RD g v d) (fun i h a => SetP h a (ks.take i)) where
  zero := fun h a led e => ⟨_, #[], 0, _, e, ⟨rfl, rfl, rfl⟩, rfl, by simp, fun _ h => by simp at h, by cases led <;> rfl, by simp [SetTable.fresh], rfl⟩
  at' := fun i h a ⟨o, _, _, _, e, _⟩ => ⟨o, e⟩
  keep := fun i h h' a ⟨o, es, ep, t, e, r⟩ k => ⟨o, es, ep, t, k o e, r⟩
  add := fun A i v s a Q E hu hi ⟨d, e, rv⟩ hS le hg k => by
    rw [List.getElem?_map] at e
    obtain ⟨q, e2, rfl⟩ := Option.map_eq_some_iff.mp e
    obtain ⟨x, rfl, hk⟩ := rv.key (w := w)
    have tk : ks.take (i + 1) = ks.take i ++ [q] := by rw [List.take_add_one, e2]; rfl
    have hq : q ∈ ks := List.mem_of_getElem? e2
    have hne : a ≠ x := by
      obtain ⟨o, _, _, ex, _⟩ := hk
      rintro rfl
      rw [hg] at ex; cases ex
    have hn : q ∉ ks.take i := by
      intro hm
      have n2 : (ks.take (i + 1)).Nodup := nd.sublist (List.take_sublist _ _)
      rw [tk, List.nodup_append] at n2
      exact n2.2.2 _ hm _ (List.mem_singleton.mpr rfl) rfl
    refine setAdd_pair hu hS hne (itk_keeps hk le) (fun q hq => h16 q (List.mem_of_mem_take hq)) (h16 q hq) hn (by rw [List.length_take]; omega) fun h' tk' hs hS' => ?_
    rw [← tk] at hS'
    exact k h' tk' hs hS'

theorem set_pairs {ks : List (List Int)} {Q : Value → Shared → Prop} (R : Room A 0) (F : Fm base g L m V s.heap) (r : RL g a (ks.map Dv.t)) (nd : ks.Nodup) (h16 : ∀ q ∈ ks, q ∈ p16) (hl : ks.length ≤ 16)
    (k : ∀ h' tk S oS, Fm base g L m ((S, oS) :: V) h' → SetP h' S ks → Q (.ref S) { s with heap := h', toks := tk }) : wpAny (model pg w) A (call (.type "set") [.ref a]) Q E s := by
  refine call_set_gen (gather_pairs nd h16 hl) R F (T := "list") (let ⟨_, ⟨o, e, hc, _⟩, _⟩ := r; ⟨o, e, hc⟩) PySem.F.sub_list_set PySem.F.sub_list_frozenset (by decide) (fun A hh => ?_) fun h' tk S oS F' hS => ?_
  · have := Src.rl (prog := pg) (w := w) hh r
    rwa [List.length_map] at this
  · rw [List.take_length] at hS
    exact k h' tk S oS F' hS
theorem len_setP {ks : List (List Int)} {Q : Value → Shared → Prop} (hS : SetP s.heap a ks) (hl : ks.length ≤ 16) (h : ∀ tk t, Q (.int ks.length t) { s with toks := tk }) : wpAny (model pg w) A (call (.builtin "len") [.ref a]) Q E s := by
  obtain ⟨o, es, ep, t, e, hex, hd, hz, _, hf, _⟩ := hS
  refine call_len_set e hex hd hf (by omega) ?_
  rw [hz]; exact h _ _

/-! the values of a dict -/
def dist (ns : List Int) : List Int := ns.foldl step_dedup []
theorem dist_snoc (ns : List Int) (n : Int) : dist (ns ++ [n]) = step_dedup (dist ns) n := by unfold dist; rw [List.foldl_append]; rfl
theorem fm_values {c : List (Int × Int)} {Q : Value → Shared → Prop} (F : Fm base g L m V s.heap) (i : IntTab pg w g a (kdfD c))
    (k : ∀ g' h' T, Fm base g' L m V h' → Le g g' → g'.get? T = some { cls := .type "dict_values", data := .fields #[.ref a] } → Q (.ref T) { s with heap := h' }) : wpAny (model pg w) A (call (.builtin "dict.values") [.ref a]) Q E s := by
  obtain ⟨lo, kvs, hd, hf⟩ := i
  have hd' := hd.keep F.le
  obtain ⟨g', F', l, e⟩ := F.alloc { cls := .type "dict_values", data := .fields #[.ref a] } rfl
  exact call_meetsIn PySem.F.slot_dict_values hd'.typeIs PySem.F.entry_dict_values (PySem.F.args_dict_values_1 _) (meets_dict_values (intKind pg w) a lo) ⟨⟨kvs, hd'⟩, k g' _ _ F' l e⟩
theorem Src.values {c : List (Int × Int)} (hh : A.handled = none) (i : IntTab pg w g a (kdfD c)) (hv : g.get? v = some { cls := .type "dict_values", data := .fields #[.ref a] }) :
    Src pg w A g (.ref v) c.length (fun i v => ∃ p t, c[i]? = some p ∧ v = .int p.2 t) where
  it := fun {base L m V s Q E} F k => by
    obtain ⟨lo, kvs, hd, hf⟩ := i
    have el : kvs.length = c.length := by have := flat_keys hf; have := congrArg List.length this; simpa using this
    obtain ⟨o, es, ep, ho, r⟩ := hd
    have ha : s.heap.DictAt (intKind pg w) a kvs ep := ⟨o, es, F.le _ _ ho, r⟩
    have hne : a ≠ s.heap.objs.size := Nat.ne_of_lt (Heap.lt_size (F.le _ _ ho))
    have W := Walks.dictValues (knd := intKind pg w) hh s.heap.objs.size a hne kvs ep
    refine wpAny_pyIter_values ⟨_, F.le _ _ hv, rfl, rfl⟩ ha (k _ _ _ _ _ ⟨W.sub, W.frame, ?_, ?_, W.self⟩ (fun i h st => let ⟨⟨o, e, _⟩, _⟩ := st; ⟨o, e⟩)
      ⟨⟨_, Heap.get?_push_size _ rfl, rfl, rfl⟩, ⟨o, es, Heap.get?_push_of_some _ (F.le _ _ ho), r⟩⟩ (F.allocV _ rfl) (fun b hb => ?_) (fun target i v s₁ Q E st h => ?_))
    · intro i s Q E hi st hQ
      refine W.item i s Q E (by rw [el]; exact hi) st fun v h' tk hP => hQ v h' tk ?_
      obtain ⟨k', hx⟩ := hP
      obtain ⟨p, hp, t, rfl⟩ := kdy_valAt hf hx
      exact ⟨p, t, hp, rfl⟩
    · rw [← el]; exact W.done
    · rcases List.mem_cons.mp hb with rfl | hb
      · exact .inl rfl
      · rw [List.mem_singleton.mp hb]; exact .inr ⟨o, ho⟩
    · obtain ⟨⟨o, ho, hc, hd⟩, _⟩ := st
      exact own_go ho hc hd (by decide) h
theorem gather_ints {c : List (Int × Int)} (hl : c.length ≤ 100) : Gather w g c.length (fun i v => ∃ p t, c[i]? = some p ∧ v = .int p.2 t)
    (fun i h a => h.SetOf (intKind pg w) a (fun k' => (dist ((c.take i).map (·.2))).any (· == k')) (dist ((c.take i).map (·.2))).length) where
  zero := fun h a led e => SetOf_congr ((PyProof.Rows.setObjOf_fresh (knd := intKind pg w) led).setOf e (by unfold scanBound; omega)) (fun _ => rfl) rfl
  at' := fun i h a ⟨o, _, _, _, e, _⟩ => ⟨o, e⟩
  keep := fun i h h' a ⟨o, es, ep, t, e, r⟩ k => ⟨o, es, ep, t, k o e, r⟩
  add := fun A i v s a Q E hu hi ⟨p, t, e, ev⟩ hS le hg k => by
    subst ev
    have tk : (c.take (i + 1)).map (·.2) = (c.take i).map (·.2) ++ [p.2] := by rw [List.take_add_one, e]; simp
    have lenb : ∀ ns : List Int, (dist ns).length ≤ ns.length := by
      intro ns
      suffices H : ∀ l : List Int, (dist l.reverse).length ≤ l.length by have := H ns.reverse; simpa using this
      intro l
      induction l with
      | nil => simp [dist]
      | cons x l ih =>
        rw [List.reverse_cons, dist_snoc, step_length]
        split <;> simp <;> omega
    unfold setAdd
    refine wpAny_holding ?_
    refine wpAny_bind ((intKind pg w).pyHash (k := p.2) (intKind_is _ _ _ _) ?_)
    have hroom : (dist ((c.take i).map (·.2))).length + 1 < scanBound := by
      have := lenb ((c.take i).map (·.2))
      rw [List.length_map, List.length_take] at this
      unfold scanBound; omega
    refine wpAny_setAddHashed_of (knd := intKind pg w) (s := { s with toks := s.toks + 1 }) (intKind_is _ _ _ _) rfl hS hroom fun h' hsb hS2 => ?_
    refine k h' _ hsb (SetOf_congr hS2 (fun k' => by rw [tk, dist_snoc, step_any]) (by rw [tk, dist_snoc, step_length]))
theorem set_values {c : List (Int × Int)} {Q : Value → Shared → Prop} (R : Room A 0) (F : Fm base g L m V s.heap) (i : IntTab pg w g a (kdfD c)) (hv : g.get? v = some { cls := .type "dict_values", data := .fields #[.ref a] }) (hl : c.length ≤ 100)
    (k : ∀ h' tk S oS, Fm base g L m ((S, oS) :: V) h' → (∃ f, h'.SetOf (intKind pg w) S f (dist (c.map (·.2))).length) → Q (.ref S) { s with heap := h', toks := tk }) : wpAny (model pg w) A (call (.type "set") [.ref v]) Q E s := by
  refine call_set_gen (gather_ints hl) R F (T := "dict_values") ⟨_, hv, rfl⟩ (by rw [isSubtype_type]; kernel_rfl) (by rw [isSubtype_type]; kernel_rfl) (by decide) (fun A hh => Src.values hh i hv) fun h' tk S oS F' hS => ?_
  rw [List.take_length] at hS
  exact k h' tk S oS F' ⟨_, hS⟩
theorem len_setI {f : Int → Bool} {n : Nat} {Q : Value → Shared → Prop} (hS : s.heap.SetOf (intKind pg w) a f n) (h : ∀ tk t, Q (.int n t) { s with toks := tk }) : wpAny (model pg w) A (call (.builtin "len") [.ref a]) Q E s := by
  obtain ⟨o, es, ep, t, e, hex, hd, _, _, hb, hf, hz⟩ := hS
  refine call_len_set e hex hd hf (by unfold scanBound at hb; omega) ?_
  rw [hz]; exact h _ _
end
end
section
open PySem PySem.W PyProof.Rows PySem.Calls
set_option maxRecDepth 100000
section
variable {w : World} {A : Around} {E : Value → Shared → Prop} {s : Shared} {base g : Heap} {L T : Addr} {m : Str → Option Value} {V : List (Addr × Obj)} {env : Env} {v1 v2 v3 : Value} {t1 t2 t3 : PySem.Expr}
theorem fm_assign2 {x1} {pos : Pos} {Q : Unit → Shared → Prop} (hh : A.handled = none) (F : Fm base g L m V s.heap) (hT : g.IsTuple T #[v1, v2])
    (h : ∀ h', Fm base g L m V h' → wpAny (model pg w) A (assign t1 env v1) (fun _ s₁ => wpAny (model pg w) A (assign t2 env v2) Q E s₁) E { s with heap := h' })
    (he : assignEach [t1, t2] env = [(false, assign t1 env), (false, assign t2 env)] := by rfl) : wpAny (model pg w) A (assign (.Tuple [t1, t2] x1 pos) env (.ref T)) Q E s := by
  obtain ⟨o, e, r⟩ := hT
  refine wpAny_assign_Tuple hh ⟨o, F.le _ _ e, r⟩ (by rw [he]; rfl) (by rw [he]; rfl) fun h' hk => ?_
  rw [he]
  have F' := F.grow (h' := h') fun b o e => hk b o (Nat.ne_of_lt (Heap.lt_size e)) e
  show wpAny _ _ (assignInOrder [assign t1 env, assign t2 env] [v1, v2]) _ _ _
  unfold assignInOrder
  refine wpAny_bind (wpAny_holding (wpAny_mono (h h' F') (fun _ s₁ h₁ => ?_) fun _ _ e => e))
  unfold assignInOrder
  refine wpAny_bind (wpAny_holding (wpAny_mono h₁ (fun _ s₂ h₂ => ?_) fun _ _ e => e))
  unfold assignInOrder
  exact wpAny_pure h₂
theorem fm_assign3 {x1} {pos : Pos} {Q : Unit → Shared → Prop} (hh : A.handled = none) (F : Fm base g L m V s.heap) (hT : g.IsTuple T #[v1, v2, v3])
    (h : ∀ h', Fm base g L m V h' → wpAny (model pg w) A (assign t1 env v1) (fun _ s₁ => wpAny (model pg w) A (assign t2 env v2) (fun _ s₂ => wpAny (model pg w) A (assign t3 env v3) Q E s₂) E s₁) E { s with heap := h' })
    (he : assignEach [t1, t2, t3] env = [(false, assign t1 env), (false, assign t2 env), (false, assign t3 env)] := by rfl) : wpAny (model pg w) A (assign (.Tuple [t1, t2, t3] x1 pos) env (.ref T)) Q E s := by
  obtain ⟨o, e, r⟩ := hT
  refine wpAny_assign_Tuple hh ⟨o, F.le _ _ e, r⟩ (by rw [he]; rfl) (by rw [he]; rfl) fun h' hk => ?_
  rw [he]
  have F' := F.grow (h' := h') fun b o e => hk b o (Nat.ne_of_lt (Heap.lt_size e)) e
  show wpAny _ _ (assignInOrder [assign t1 env, assign t2 env, assign t3 env] [v1, v2, v3]) _ _ _
  unfold assignInOrder
  refine wpAny_bind (wpAny_holding (wpAny_mono (h h' F') (fun _ s₁ h₁ => ?_) fun _ _ e => e))
  unfold assignInOrder
  refine wpAny_bind (wpAny_holding (wpAny_mono h₁ (fun _ s₂ h₂ => ?_) fun _ _ e => e))
  unfold assignInOrder
  refine wpAny_bind (wpAny_holding (wpAny_mono h₂ (fun _ s₂ h₃ => ?_) fun _ _ e => e))
  unfold assignInOrder
  exact wpAny_pure h₃
theorem fm_tupItem {a : Addr} {vs : List Value} {value slice : PySem.Expr} {k : Int} {t : Tok} {v : Value} {Q : Value → Shared → Prop} (hT : g.IsTuple a vs.toArray) (le : Le g s.heap) (h0 : 0 ≤ k) (hk : k < vs.length) (hz : vs.length ≤ 100) (hx : vs[k.toNat]? = some v) (h : Q v s)
    (hs : subscripted slice false (.ref a) (.int k t) = operate [.ref a, .int k t] (getItem (.ref a) (.int k t)) := by with_unfolding_all rfl) : wpAny (model pg w) A (subscriptTail value slice (.ref a) (.int k t)) Q E s := by
  obtain ⟨o, e, r⟩ := hT
  have hT : IsTup s.heap a vs.toArray := ⟨o, le _ _ e, r⟩
  have hj : seqIndex? k vs.length = some k.toNat := by
    unfold seqIndex?
    dsimp only
    have h1 : ¬ k < 0 := by omega
    rw [if_neg h1, if_pos (by simp [h0, hk])]
  exact item_tupleT hT (by omega) (by omega) (by simpa using hj) (by simpa using hx) h hs
/-- the elements of an int tuple by their places -/
theorem fm_item0 {ns : List Int} {value slice : PySem.Expr} {k : Int} {t : Tok} {v : Value} {Q : Value → Shared → Prop} (r : RD g v (.t ns)) (le : Le g s.heap) (h0 : 0 ≤ k) (hz : ns.length ≤ 100) {x : Int} (hx : ns[k.toNat]? = some x) (h : ∀ t, Q (.int x t) s)
    (hs : ∀ a, subscripted slice false (.ref a) (.int k t) = operate [.ref a, .int k t] (getItem (.ref a) (.int k t)) := by intro _; with_unfolding_all rfl) : wpAny (model pg w) A (subscriptTail value slice v (.int k t)) Q E s := by
  obtain ⟨a, vs, rfl, ⟨o, e, r⟩, hi⟩ := r.tup_inv
  have hT : g.IsTuple a vs.toArray := ⟨o, e, r⟩
  have ra := RA.ints (g := g) (ns := []) hi
  obtain ⟨v, e2, rv⟩ := ra.at' (i := k.toNat) (d := .i x) (by rw [List.getElem?_map, hx]; rfl)
  obtain ⟨u, rfl⟩ := rv.int_inv
  have hl : vs.length = ns.length := by have := ra.len; simpa using this
  have hlt : k.toNat < ns.length := (List.getElem?_eq_some_iff.mp hx).1
  exact fm_tupItem hT le h0 (by omega) (by omega) e2 (h u) (hs a)
end
end
section
open PySem PySem.W PyProof.Rows PySem.Calls
set_option maxRecDepth 100000
set_option maxHeartbeats 2000000
local macro_rules | `(tactic| walk_at "pad") => `(tactic| skip)
local macro_rules | `(tactic| walk_at "pad") => `(tactic| skip)
def marks2 (c d : List (Int × Int)) : List Dv := (List.range 13).map fun (i : Nat) => Dv.t (fr2 c d (i : Int))
def firstIs (c : List (Int × Int)) (i : Nat) : Bool := decide (kdfLook c (i : Int) 0 ≠ 0) && decide ((parting c)[i]? = some (.i (i : Int)))
/-- what the plain law says of the join of two -/
structure BothF (c d : List (Int × Int)) : Prop where
  part : parting (jn c d).2 = idx (marks2 c d)
  nn : ∀ i : Nat, i < 13 → 0 ≤ kdfLook (jn c d).2 (i : Int) 0
  at' : ∀ i : Nat, i < 13 → (jn c d).1[(kdfLook (jn c d).2 (i : Int) 0).toNat]? = some (fr2 c d (i : Int))
  nd : (jn c d).1.Nodup
  p16 : ∀ q ∈ (jn c d).1, q ∈ p16
  len : (jn c d).1.length ≤ 14
  zero : (jn c d).1[0]? = some [0, 0]
  cnt : cnt (jn c d).2 = ((jn c d).1.length : Int)
  firsts : ((List.range 13).filter (firstIs (jn c d).2)).map (fun (i : Nat) => kdfLook (jn c d).2 (i : Int) 0) = (List.range ((jn c d).1.length - 1)).map fun (j : Nat) => (1 : Int) + (j : Int)
  keys : ∀ k ∈ (jn c d).2.map (·.1), 0 ≤ k ∧ k < 13
section
variable {w : World} {A : Around} {E : Value → Shared → Prop} {s : Shared} {base g g' h h' : Heap} {L f x y a b d p cl dm dy : Addr} {m m' mg mb : Str → Option Value} {V V' V1 V2 : List (Addr × Obj)} {o : Obj} {env : Env}
theorem rl_item {ds : List Dv} {dv : Dv} {value slice : PySem.Expr} {k : Int} {t : Tok} {Q : Value → Shared → Prop} (r : RL g a ds) (le : Le g s.heap) (h0 : 0 ≤ k) (hz : ds.length ≤ 1000) (hx : ds[k.toNat]? = some dv) (h : ∀ v, RD g v dv → Q v s)
    (hs : subscripted slice false (.ref a) (.int k t) = operate [.ref a, .int k t] (getItem (.ref a) (.int k t)) := by with_unfolding_all rfl) : wpAny (model pg w) A (subscriptTail value slice (.ref a) (.int k t)) Q E s := by
  obtain ⟨vs, hL, ra⟩ := r
  obtain ⟨v, e, rv⟩ := ra.at' hx
  have hlt : k.toNat < ds.length := (List.getElem?_eq_some_iff.mp hx).1
  exact fm_item hL le h0 (by omega) e (h v rv) hs
theorem rl_len {ds : List Dv} {Q : Value → Shared → Prop} (r : RL g a ds) (le : Le g s.heap) (hz : ds.length ≤ 1000) (k : ∀ tk t, Q (.int ds.length t) { s with toks := tk }) : wpAny (model pg w) A (call (.builtin "len") [.ref a]) Q E s := by
  obtain ⟨vs, hL, ra⟩ := r
  have := ra.len
  rw [← this] at k hz
  exact fm_len hL le hz k
theorem RA.of : ∀ {vs : List Value} {ds : List Dv}, vs.length = ds.length → (∀ (j : Nat) v, vs[j]? = some v → ∃ d, ds[j]? = some d ∧ RD g v d) → RA g vs ds
  | [], [], _, _ => .nil
  | [], _ :: _, h, _ => by simp at h
  | _ :: _, [], h, _ => by simp at h
  | v :: vs, d :: ds, h, k => by
    obtain ⟨d', e, r⟩ := k 0 v rfl
    simp at e; subst e
    exact RA.cons r (RA.of (by simpa using h) fun j v hj => by simpa using k (j + 1) v (by simpa using hj))
theorem fm_listRange {r : Addr} {n : Nat} {t u v : Tok} {Q : Value → Shared → Prop} (hh : A.handled = none) (F : Fm base g L m V s.heap) (hr : IsRange g r 1 ((n : Int) + 1) 1 t u v) (hz : n ≤ 100)
    (k : ∀ g' h' tk T, Fm base g' L m V h' → Le g g' → RL g' T ((List.range n).map fun (j : Nat) => Dv.i (1 + (j : Int))) → Q (.ref T) { s with heap := h', toks := tk }) : wpAny (model pg w) A (call (.type "list") [.ref r]) Q E s := by
  refine call_list_range (n := n) hh (F.le _ _ hr) (small_one (by omega) (by omega) (by omega) (by omega)) (by rw [rangeSize_one]; split <;> omega) (by omega) fun h' tk acc c' hk hS hacc => ?_
  obtain ⟨g', F', l, nw⟩ := F.grown hk
  have e := nw _ _ hS (get_size_none _)
  refine k g' h' tk _ F' l ⟨acc.toList, ⟨_, e, rfl, c', by simp⟩, RA.of (by rw [Array.length_toList, hacc.1]; simp) fun j v hj => ?_⟩
  have hv' : acc[j]? = some v := by simpa using hj
  obtain ⟨t', rfl⟩ := hacc.2 j v hv'
  have hjn : j < n := by
    have := (Array.getElem?_eq_some_iff.mp hv').1
    rw [hacc.1] at this; exact this
  refine ⟨.i (1 + (j : Int)), by rw [List.getElem?_map, List.getElem?_range hjn]; rfl, ?_⟩
  rw [Int.mul_one]
  exact RD.int _ _
theorem one_if {c : PySem.Expr} {Q : Bool → Shared → Prop} (h : wpAny (model pg w) A (isTrue c env (eval c env)) Q E s) :
    wpAny (model pg w) A (forIn [c] true fun c r => if r = true then do let ok ← isTrue c env (eval c env); pure (ForInStep.yield ok) else pure (ForInStep.yield r)) Q E s := by
  rw [List.forIn_cons]
  refine wpAny_bind ?_
  rw [if_pos rfl]
  refine wpAny_bind (wpAny_mono h (fun ok s₁ h₁ => wpAny_pure ?_) fun _ _ e => e)
  dsimp only
  rw [List.forIn_nil]
  exact wpAny_pure h₁
theorem parting_at (c : List (Int × Int)) {i : Nat} (hi : i < 13) : ∃ p : Int, (parting c)[i]? = some (.i p) := by
  unfold parting idx
  rw [List.getElem?_map, List.getElem?_map, List.getElem?_range hi]
  exact ⟨_, rfl⟩
def fsts (c : List (Int × Int)) (n : Nat) : List Dv := ((List.range n).filter (firstIs c)).map fun (i : Nat) => Dv.i (i : Int)
theorem fsts_succ (c : List (Int × Int)) (n : Nat) : fsts c (n + 1) = if firstIs c n = true then fsts c n ++ [.i n] else fsts c n := by
  unfold fsts
  rw [List.range_succ, List.filter_append, List.map_append]
  by_cases h : firstIs c n = true
  · rw [if_pos h, List.filter_cons_of_pos h]; rfl
  · rw [if_neg h, List.filter_cons_of_neg h]; simp
theorem fsts_len (c : List (Int × Int)) (n : Nat) : (fsts c n).length ≤ n := by
  unfold fsts
  rw [List.length_map]
  exact Nat.le_trans (List.length_filter_le _ _) (by simp)
local macro_rules | `(tactic| walk_at "getMethod ref") => `(tactic| ((with_reducible show wpAny _ _ (getMethod (Value.ref _) (PySem.Str.ofString "class_of") _) _ _ _); refine meth_class_of (by assumption) (by assumption) (CD.keeps (by assumption) (by walk_at "leg")) ?_))
local macro_rules | `(tactic| walk_at "getMethod ref") => `(tactic| ((with_reducible show wpAny _ _ (getMethod (Value.ref _) (PySem.Str.ofString "count") _) _ _ _); refine meth_count (by assumption) (by assumption) (CD.keeps (by assumption) (by walk_at "leg")) ?_))
local macro_rules | `(tactic| walk_at "call ref") => `(tactic| ((with_reducible show wpAny _ _ (call (Value.ref 42) _ _) _ _ _); refine class_of_spec (by assumption) (by assumption) (by walk_at "room") (CD.keeps (by assumption) (by walk_at "leg")) (ID.keeps (by assumption) (by walk_at "leg")) ?_; intro _ _ _ _ _ _))

theorem both_spec {c c2 : List (Int × Int)} {Q : Value → Shared → Prop} (B : BothF c c2) (D : Md w base mg mb) (F : Fm base g L m V s.heap) (R : Room A 16) (hx : CD g x a) (hc : ID w g a c) (hy : CD g y b) (hc2 : ID w g b c2) (hm : ID w g dm c) (hy2 : ID w g dy c2)
    (hk : ∀ k ∈ c.map (·.1), 0 ≤ k ∧ k < 13) (hk2 : ∀ k ∈ c2.map (·.1), 0 ≤ k ∧ k < 13)
    (h : ∀ g' h' tk, Fm base g' L m V h' → Le g g' → Q (.bool true) { s with heap := h', toks := tk }) :
    wpAny (model pg w) A (call (.ref 111) [.ref x, .ref y, .ref dm, .ref dy]) Q E s := by
  refine call_fnC (Post := fun g' v => v = .bool true) (binds := [("one", .ref x), ("other", .ref y), ("mine", .ref dm), ("yours", .ref dy)]) F (R.le (by omega)) D.lim (D.X _ _ rfl) rfl (codeRec_of D.X rfl) rfl rfl ?_ (by decide) ?_ ?_
  · intro n y hy
    simp at hy
    rcases hy with rfl | rfl | rfl | rfl <;> first | exact .inl rfl | exact .inr ⟨rfl, rfl⟩
  · intro L' h₁ W C tk X F₁
    have R' := R.deeper
    obtain ⟨o1, o2, o3, o4, rfl, h1, h2, h3, h4⟩ := CellsAre.four X
    replace h1 : o1.data = .cell none := h1
    replace h2 : o2.data = .cell none := h2
    replace h3 : o3.data = .cell (some (.ref dy)) := h3
    replace h4 : o4.data = .cell (some (.ref dm)) := h4
    have F0 := F₁.perm (V1 := (L' + 1, o4) :: (L' + 1 + 1, o3) :: (L' + 1 + 1 + 1, o2) :: (L' + 1 + 1 + 1 + 1, o1) :: W) ((List.reverse_perm [(L' + 1 + 1 + 1 + 1, o1), (L' + 1 + 1 + 1, o2), (L' + 1 + 1, o3), (L' + 1, o4)]).symm.append_right W)
    obtain ⟨g1, F1, l1, e1⟩ := F0.freezeV
    obtain ⟨g2, F2, l2, e2⟩ := F1.freezeV
    have hcm : g2.IsCell (L' + 1) (some (.ref dm)) := ⟨o4, l2 _ _ e1, h4⟩
    have hcy : g2.IsCell (L' + 1 + 1) (some (.ref dy)) := ⟨o3, e2, h3⟩
    have l02 := Le.trans' l1 l2
    have hx2 := hx.keeps l02
    have hy' := hy.keeps l02
    have hc' := hc.keeps l02
    have hc2' := hc2.keeps l02
    have hm' := hm.keeps l02
    have hy2' := hy2.keeps l02
    clear F1 F0 F₁ X
    iterate 11 walk1
    refine common_spec (by assumption) F2 ((R' _).le (by omega)) hx2 hc' hy' hc2' hk hk2 ?_
    intro g3 h3 tk3 T x3 a3 l3 F3 le3 hT hx3 hd3 hl3
    skip
    refine fm_assign2 (Room.handled (n := 0) (by walk_at "room")) F3 hT ?_
    intro h4 F4
    refine wpAny_assign_Name (fm_stC (V1 := []) F4 rfl h2 ?_)
    intro h5 o5 d5 F5
    refine wpAny_assign_Name (fm_stC (V1 := [(L' + 1 + 1 + 1, o5)]) F5 rfl h1 ?_)
    intro h6 o6 d6 F6
    obtain ⟨g7, F7, le7, e7⟩ := Fm.freezeV (V := (L' + 1 + 1 + 1 + 1, o6) :: W) F6
    obtain ⟨g8, F8, le8, e8⟩ := F7.freezeV
    have hcf : g8.IsCell (L' + 1 + 1 + 1) (some (.ref x3)) := ⟨o5, le8 _ _ e7, d5⟩
    have hcp : g8.IsCell (L' + 1 + 1 + 1 + 1) (some (.ref l3)) := ⟨o6, e8, d6⟩
    have l38 := Le.trans' le3 (Le.trans' le7 le8)
    replace hx3 := hx3.keeps (Le.trans' le7 le8)
    replace hd3 := hd3.keeps (Le.trans' le7 le8)
    replace hl3 := hl3.keeps (Le.trans' le7 le8)
    replace hcm := hcm.keeps l38
    replace hcy := hcy.keeps l38
    replace hm' := hm'.keeps l38
    replace hy2' := hy2'.keeps l38
    clear F7 F6 F5 F4 F3 F2
    iterate 1 walk1
    refine Assign_ListComp_ ?_
    iterate 6 walk1
    refine fm_range1 F8 ?_
    intro g9 h9 r9 tk9 t9 u9 v9 F9 l9 hr9
    refine pyIter_comp (Src.range0 13 (by omega) (Room.handled (n := 0) (by walk_at "room")) hr9) F9 (by rw [sizeLine_eq]; omega) (fun i g3 ys V1 => W = V1 ∧ RA g3 ys ((marks2 c c2).take i)) ⟨rfl, RA.nil⟩ ?_ ?_
    · rintro i v g10 ys V1 I oI C D oL h tk m₂ hi ⟨t, rfl⟩ le ⟨rfl, hy⟩ q hxn hl F10
      have hcm1 := hcm.keeps (Le.trans' l9 le)
      have hcy1 := hcy.keeps (Le.trans' l9 le)
      have hm1 := hm'.keeps (Le.trans' l9 le)
      have hy1 := hy2'.keeps (Le.trans' l9 le)
      refine no_ifs ?_
      rw [if_pos rfl]
      iterate 25 walk1
      refine CEnd.mk' (by assumption) (by assumption) ⟨rfl, hy.snocK (by assumption) ?_ (by assumption)⟩
      rw [marks2, List.getElem?_map, List.getElem?_range hi]; rfl
    · rintro g10 ys V1 C D oL h tk m₂ le ⟨rfl, hy⟩ q F10
      refine comp_doneAP F9 q F10 fun g11 h11 tk11 l11 F11 hL => ?_
      have hmk : PL g11 D (marks2 c c2) := ⟨ys, hL, by
        have := hy.keeps l11
        rwa [List.take_of_length_le (by simp [marks2])] at this⟩
      have lA := Le.trans' l9 (Le.trans' le l11)
      replace hx3 := hx3.keeps lA
      replace hd3 := hd3.keeps lA
      replace hl3 := hl3.keeps lA
      replace hcf := hcf.keeps lA
      replace hcp := hcp.keeps lA
      clear F10 F9 F8
      iterate 11 walk1
      refine parting_spec (by assumption) F11 ((R' _).le (by omega)) hx3 hd3 ?_
      intro g12 h12 tk12 T1 F12 l12 hp1
      iterate 7 walk1
      refine marks_spec (by assumption) F12 ((R' _).le (by omega)) (hmk.keeps l12) (by simp [marks2]) ?_
      intro g13 h13 tk13 T2 F13 l13 hp2
      have lb := Le.trans' l12 l13
      replace hx3 := hx3.keeps lb
      replace hd3 := hd3.keeps lb
      replace hl3 := hl3.keeps lb
      replace hcf := hcf.keeps lb
      replace hcp := hcp.keeps lb
      replace hmk := hmk.keeps lb
      replace hp1 := hp1.keeps l13
      clear F12 F11
      skip
      refine ne_rl ((R' _).le (by omega)) hp1.rl hp2.rl F13.le ?_
      rw [B.part, decide_eq_true rfl]
      iterate 11 walk1
      refine fm_range1 F13 ?_
      intro g14 h14 r14 tk14 t14 u14 v14 F14 l14 hr14
      refine pyIter_comp (Src.range0 13 (by omega) (Room.handled (n := 0) (by walk_at "room")) hr14) F14 (by rw [sizeLine_eq]; omega) (fun i g3 ys V1 => W = V1 ∧ RA g3 ys ((marks2 c c2).take i)) ⟨rfl, RA.nil⟩ ?_ ?_
      · rintro i v g15 ys V1 I oI C D oL h tk m₂ hi ⟨t, rfl⟩ le ⟨rfl, hy⟩ q hxn hl F15
        have hx4 := hx3.keeps (Le.trans' l14 le)
        have hd4 := hd3.keeps (Le.trans' l14 le)
        have hl4 := hl3.keeps (Le.trans' l14 le)
        have hcf4 := hcf.keeps (Le.trans' l14 le)
        have hcp4 := hcp.keeps (Le.trans' l14 le)
        refine no_ifs ?_
        rw [if_pos rfl]
        iterate 11 walk1
        refine rl_item (dv := .t (fr2 c c2 (i : Int))) hl4 (by walk_at "le") (B.nn i hi) (by rw [List.length_map]; have := B.len; omega) (by rw [List.getElem?_map, B.at' i hi]; rfl) ?_
        intro v rv
        refine CEnd.mk' (by assumption) (by assumption) ⟨rfl, hy.snocK (by assumption) ?_ (rv.keeps (by assumption))⟩
        rw [marks2, List.getElem?_map, List.getElem?_range hi]; rfl
      · rintro g15 ys V1 C D oL h tk m₂ le ⟨rfl, hy⟩ q F15
        refine comp_doneP F14 q F15 fun g16 h16 l16 F16 hL => ?_
        have hmk2 : PL g16 D (marks2 c c2) := ⟨ys, hL, by
          have := hy.keeps l16
          rwa [List.take_of_length_le (by simp [marks2])] at this⟩
        have lC := Le.trans' l14 (Le.trans' le l16)
        replace hx3 := hx3.keeps lC
        replace hd3 := hd3.keeps lC
        replace hl3 := hl3.keeps lC
        replace hcf := hcf.keeps lC
        replace hcp := hcp.keeps lC
        replace hmk := hmk.keeps lC
        clear F15 F14 F13
        iterate 1 walk1
        refine ne_rl ((R' _).le (by omega)) hmk2.rl hmk.rl F16.le ?_
        rw [decide_eq_true rfl]
        iterate 15 walk1
        refine rl_len hl3 F16.le (by rw [List.length_map]; have := B.len; omega) ?_
        intro tk17 t17
        rw [List.length_map]
        iterate 10 walk1
        refine set_pairs ((R' _).le (by omega)) F16 hl3 B.nd B.p16 (by have := B.len; omega) ?_
        intro h18 tk18 S oS F18 hS
        iterate 1 walk1
        refine len_setP hS (by have := B.len; omega) ?_
        intro tk19 t19
        replace F18 := F18.drop
        clear F16
        ((focus (iterate 3 walk1)); (focus (iterate 4 walk1)); (focus skip); rotate_left 1; (focus (iterate 5 walk1)); (focus skip); rotate_left 1; rotate_right 2)
        · rename_i hne; exact absurd rfl hne
        · refine rl_item (dv := .t [0, 0]) hl3 F18.le (by omega) (by rw [List.length_map]; have := B.len; omega) (by rw [List.getElem?_map]; show ((jn c c2).1[0]?).map _ = _; rw [B.zero]; rfl) ?_
          intro v0 rv0
          iterate 7 walk1
          rename_i g19 h19 T19 F19 l19 r19
          refine ne_rd ((R' _).le (by omega)) (rv0.keeps l19) r19 F19.le ?_
          rw [decide_eq_true rfl]
          replace hx3 := hx3.keeps l19
          replace hd3 := hd3.keeps l19
          replace hl3 := hl3.keeps l19
          replace hcf := hcf.keeps l19
          replace hcp := hcp.keeps l19
          clear F18
          iterate 8 walk1
          refine count_spec (by assumption) F19 ((R' _).le (by omega)) hx3 hd3 ?_
          intro g20 h20 tk20 t20 F20 l20
          rw [B.cnt]
          replace hx3 := hx3.keeps l20
          replace hd3 := hd3.keeps l20
          replace hl3 := hl3.keeps l20
          replace hcf := hcf.keeps l20
          replace hcp := hcp.keeps l20
          clear F19
          iterate 6 walk1
          refine rl_len hl3 F20.le (by rw [List.length_map]; have := B.len; omega) ?_
          intro tk21 t21
          rw [List.length_map]
          ((focus (iterate 3 walk1)); (focus (iterate 4 walk1)); (focus skip); rotate_left 1; (focus (iterate 4 walk1)); (focus skip); rotate_left 1; rotate_right 2)
          · rename_i hne; exact absurd rfl hne
          · refine Assign_ListComp_ ?_
            iterate 6 walk1
            refine fm_range1 F20 ?_
            intro g22 h22 r22 tk22 t22 u22 v22 F22 l22 hr22
            refine pyIter_comp (Src.range0 13 (by omega) (Room.handled (n := 0) (by walk_at "room")) hr22) F22 (by rw [sizeLine_eq]; omega) (fun i g3 ys V1 => W = V1 ∧ RA g3 ys (fsts (jn c c2).2 i)) ⟨rfl, RA.nil⟩ ?_ ?_
            · rintro i v g23 ys V1 I oI C D oL h tk m₂ hi ⟨t, rfl⟩ le ⟨rfl, hy⟩ q hxn hl F23
              have hx4 := hx3.keeps (Le.trans' l22 le)
              have hd4 := hd3.keeps (Le.trans' l22 le)
              have hcf4 := hcf.keeps (Le.trans' l22 le)
              rw [fsts_succ]
              refine one_if ?_
              ((focus (iterate 15 walk1)); (focus (iterate 11 walk1)); (focus skip); rotate_left 1; (focus (iterate 1 walk1)); (focus skip); rotate_left 1; rotate_right 2)
              · have hz : kdfLook (jn c c2).2 (i : Int) 0 ≠ 0 := by assumption
                refine parting_spec (by assumption) (by assumption) ((R' _).le (by omega)) (hx4.keeps (by assumption)) (hd4.keeps (by assumption)) ?_
                intro g24 h24 tk24 TP F24 l24 hpp
                obtain ⟨p, hp⟩ := parting_at (jn c c2).2 hi
                iterate 1 walk1
                refine rl_item (dv := .i p) hpp.rl F24.le (by omega) (by simp [parting, idx]) (by simpa using hp) ?_
                intro v rv
                obtain ⟨tp, rfl⟩ := rv.int_inv
                ((focus (iterate 3 walk1)); (focus (iterate 3 walk1)); (focus skip); rotate_left 1; (focus (iterate 1 walk1)); (focus skip); rotate_left 1; rotate_right 2)
                · have hip : (i : Int) = p := by assumption
                  have hf : firstIs (jn c c2).2 i = true := by
                    unfold firstIs; rw [hp, ← hip]; simp [hz]
                  rw [if_pos hf]
                  refine CEnd.mk' F24 (by walk_at "leg") ⟨rfl, (hy.keeps (by walk_at "leg")).snoc (RD.int _ _)⟩
                · have hip : (i : Int) ≠ p := by assumption
                  have hf : ¬ firstIs (jn c c2).2 i = true := by
                    unfold firstIs; rw [hp]; simp [Ne.symm hip]
                  rw [if_neg hf]
                  refine CEnd.mk' F24 (by walk_at "leg") ⟨rfl, hy.keeps (by walk_at "leg")⟩
              · have hz : kdfLook (jn c c2).2 (i : Int) 0 = 0 := by assumption
                have hf : ¬ firstIs (jn c c2).2 i = true := by unfold firstIs; simp [hz]
                rw [if_neg hf]
                refine CEnd.mk' (by assumption) (by assumption) ⟨rfl, hy.keeps (by assumption)⟩
            · rintro g23 ys V1 C D oL h tk m₂ le ⟨rfl, hy⟩ q F23
              refine comp_doneAP F22 q F23 fun g24 h24 tk24 l24 F24 hL => ?_
              have hfs : RL g24 D (fsts (jn c c2).2 13) := ⟨ys, ⟨_, hL, rfl, _, rfl⟩, hy.keeps l24⟩
              have lE := Le.trans' l22 (Le.trans' le l24)
              replace hx3 := hx3.keeps lE
              replace hd3 := hd3.keeps lE
              replace hl3 := hl3.keeps lE
              replace hcf := hcf.keeps lE
              replace hcp := hcp.keeps lE
              clear F23 F22 F20
              have fl := fsts_len (jn c c2).2 13
              iterate 5 walk1
              refine pyIter_comp (Src.rl (Room.handled (n := 0) (by walk_at "room")) hfs) F24 (by rw [sizeLine_eq]; omega) (fun i g3 ys V1 => W = V1 ∧ RA g3 ys ((((List.range 13).filter (firstIs (jn c c2).2)).map fun (i : Nat) => Dv.i (kdfLook (jn c c2).2 (i : Int) 0)).take i)) ⟨rfl, RA.nil⟩ ?_ ?_
              · rintro j v g25 ys V1 I oI C D oL h tk m₂ hj ⟨dv, e, rv⟩ le ⟨rfl, hy⟩ q hxn hl F25
                unfold fsts at e
                rw [List.getElem?_map] at e
                obtain ⟨i, e2, rfl⟩ := Option.map_eq_some_iff.mp e
                obtain ⟨ti, rfl⟩ := rv.int_inv
                have hx4 := hx3.keeps le
                have hd4 := hd3.keeps le
                have hcf4 := hcf.keeps le
                refine no_ifs ?_
                rw [if_pos rfl]
                iterate 9 walk1
                refine CEnd.mk' (by assumption) (by assumption) ⟨rfl, hy.snocK (by assumption) ?_ (RD.int _ _)⟩
                rw [List.getElem?_map, e2]; rfl
              · rintro g25 ys V1 C D oL h tk m₂ le ⟨rfl, hy⟩ q F25
                refine comp_done F24 q F25 fun g26 h26 l26 F26 hL => ?_
                have hR1 : RL g26 D (((List.range 13).filter (firstIs (jn c c2).2)).map fun (i : Nat) => Dv.i (kdfLook (jn c c2).2 (i : Int) 0)) := ⟨ys, hL, by
                  have := hy.keeps l26
                  rwa [List.take_of_length_le (by simp [fsts])] at this⟩
                replace hl3 := hl3.keeps (Le.trans' le l26)
                replace hcp := hcp.keeps (Le.trans' le l26)
                clear F25 F24
                iterate 16 walk1
                refine rl_len hl3 F26.le (by rw [List.length_map]; have := B.len; omega) ?_
                intro tk27 t27
                rw [List.length_map]
                iterate 1 walk1
                refine fm_range2 F26 ?_
                intro g28 h28 r28 tk28 t28 u28 v28 F28 l28 hr28
                have hpos : 0 < (jn c c2).1.length := (List.getElem?_eq_some_iff.mp B.zero).1
                have hpe : ((jn c c2).1.length : Int) = (((jn c c2).1.length - 1 : Nat) : Int) + 1 := by omega
                rw [hpe] at hr28
                clear F26
                iterate 1 walk1
                refine fm_listRange (Room.handled (n := 0) (by walk_at "room")) F28 hr28 (by have := B.len; omega) ?_
                intro g29 h29 tk29 T29 F29 l29 hR2
                skip
                refine eq_rl ((R' _).le (by omega)) (hR1.keeps (Le.trans' l28 l29)) hR2 F29.le ?_
                have hfin : (((List.range 13).filter (firstIs (jn c c2).2)).map fun (i : Nat) => Dv.i (kdfLook (jn c c2).2 (i : Int) 0)) = (List.range ((jn c c2).1.length - 1)).map fun (j : Nat) => Dv.i (1 + (j : Int)) := by
                  have := congrArg (List.map Dv.i) B.firsts
                  rwa [List.map_map, List.map_map] at this
                rw [hfin, decide_eq_true rfl]
                skip
                exact End.ret [] F29 (Le.trans' l02 (Le.trans' l38 (Le.trans' lA (Le.trans' lb (Le.trans' lC (Le.trans' l19 (Le.trans' l20 (Le.trans' lE (Le.trans' le (Le.trans' l26 (Le.trans' l28 l29))))))))))) rfl
  · rintro g' h' tk v F' l rfl
    exact h g' h' tk F' l
end
end
section
open PySem PySem.W PyProof.Rows PySem.Calls
set_option maxRecDepth 100000
theorem snocInd {α : Type} {P : List α → Prop} (h0 : P []) (h1 : ∀ l a, P l → P (l ++ [a])) (l : List α) : P l := by
  have : ∀ l : List α, P l.reverse := by
    intro l
    induction l with
    | nil => exact h0
    | cons a l ih => rw [List.reverse_cons]; exact h1 _ _ ih
  have := this l.reverse
  rwa [List.reverse_reverse] at this
theorem look_snoc (c : List (Int × Int)) (k n k' : Int) (h : ∀ p ∈ c, p.1 ≠ k) : kdfLook (c ++ [(k, n)]) k' 0 = if k' = k then n else kdfLook c k' 0 := by
  unfold kdfLook
  rw [List.find?_append]
  by_cases e : k' = k
  · subst e
    have : c.find? (fun p => decide (p.1 = k')) = none := by
      rw [List.find?_eq_none]; intro p hp; simpa using h p hp
    rw [this]; simp
  · have : [(k, n)].find? (fun p => decide (p.1 = k')) = none := by
      simp [Ne.symm e]
    rw [this, Option.or_none, if_neg e]
theorem look_none (c : List (Int × Int)) (k : Int) (h : ∀ p ∈ c, p.1 ≠ k) : kdfLook c k 0 = 0 := by
  unfold kdfLook
  have : c.find? (fun p => decide (p.1 = k)) = none := by
    rw [List.find?_eq_none]; intro p hp; simpa using h p hp
  rw [this]; rfl
structure NumInv (f : Int → List Int) (p0 : List Int) (l : List Int) (st : List (List Int) × List (Int × Int)) : Prop where
  head : ∃ r, st.1 = p0 :: r
  nd : st.1.Nodup
  mem : ∀ k ∈ l, f k ∈ st.1
  src : ∀ q ∈ st.1, q = p0 ∨ ∃ k ∈ l, f k = q
  look : ∀ k ∈ l, kdfLook st.2 k 0 = st.1.idxOf (f k)
  keys : ∀ p ∈ st.2, p.1 ∈ l
  cnt : (st.2.map (·.2)).foldl mx 0 = (st.1.length : Int) - 1
theorem num_inv (f : Int → List Int) (p0 : List Int) : ∀ l : List Int, l.Nodup → NumInv f p0 l (num f p0 l) := by
  refine snocInd ?_ ?_
  · intro _
    exact ⟨⟨[], rfl⟩, by simp [num], (fun _ h => by cases h), (fun q hq => by simp [num] at hq; exact .inl hq), (fun _ h => by cases h), (fun _ h => by simp [num] at h), by simp [num]⟩
  · intro l k ih nd
    rw [List.nodup_append] at nd
    have I := ih nd.1
    have hk : k ∉ l := fun h => nd.2.2 k h k (List.mem_singleton.mpr rfl) rfl
    rw [num_snoc]
    generalize num f p0 l = st at I
    obtain ⟨kept, c⟩ := st
    obtain ⟨⟨r, hr⟩, I2, I3, I4, I5, I6, I7⟩ := I
    dsimp only at hr I2 I3 I4 I5 I6 I7
    have hc : ∀ p ∈ c, p.1 ≠ k := fun p hp e => hk (e ▸ I6 p hp)
    have hpos : 0 < kept.length := by rw [hr]; simp
    by_cases hin : f k ∈ kept
    · have hlt := List.idxOf_lt_length_of_mem hin
      by_cases hz : kept.idxOf (f k) = 0
      · have e : numStep f (kept, c) k = (kept, c) := by unfold numStep; simp [hin, hz]
        rw [e]
        refine ⟨⟨r, hr⟩, I2, ?_, ?_, ?_, ?_, I7⟩
        · intro k' hk'
          rcases List.mem_append.mp hk' with q | q
          · exact I3 k' q
          · rw [List.mem_singleton.mp q]; exact hin
        · intro q hq
          rcases I4 q hq with h | ⟨k', h1, h2⟩
          · exact .inl h
          · exact .inr ⟨k', List.mem_append_left _ h1, h2⟩
        · intro k' hk'
          rcases List.mem_append.mp hk' with q | q
          · exact I5 k' q
          · rw [List.mem_singleton.mp q]; dsimp only; rw [hz, look_none c k hc]; rfl
        · intro p hp; exact List.mem_append_left _ (I6 p hp)
      · have e : numStep f (kept, c) k = (kept, c ++ [(k, (kept.idxOf (f k) : Int))]) := by unfold numStep; simp [hin, hz]
        rw [e]
        refine ⟨⟨r, hr⟩, I2, ?_, ?_, ?_, ?_, ?_⟩
        · intro k' hk'
          rcases List.mem_append.mp hk' with q | q
          · exact I3 k' q
          · rw [List.mem_singleton.mp q]; exact hin
        · intro q hq
          rcases I4 q hq with h | ⟨k', h1, h2⟩
          · exact .inl h
          · exact .inr ⟨k', List.mem_append_left _ h1, h2⟩
        · intro k' hk'
          dsimp only
          rw [look_snoc c k _ k' hc]
          rcases List.mem_append.mp hk' with q | q
          · rw [if_neg (fun (e : k' = k) => hk (e ▸ q))]; exact I5 k' q
          · rw [List.mem_singleton.mp q, if_pos rfl]
        · intro p hp
          rcases List.mem_append.mp hp with q | q
          · exact List.mem_append_left _ (I6 p q)
          · rw [List.mem_singleton.mp q]; simp
        · dsimp only
          rw [List.map_append, List.foldl_append, I7]
          simp only [List.map_cons, List.map_nil, List.foldl_cons, List.foldl_nil]
          unfold mx
          rw [if_neg (by omega)]
    · have hidx : (kept ++ [f k]).idxOf (f k) = kept.length := by
        rw [List.idxOf_append, if_neg hin]; simp
      have hz : ¬ (kept ++ [f k]).idxOf (f k) = 0 := by omega
      have e : numStep f (kept, c) k = (kept ++ [f k], c ++ [(k, (kept.length : Int))]) := by
        unfold numStep
        simp only [hin, if_false]
        rw [if_pos hz, hidx]
      rw [e]
      refine ⟨⟨r ++ [f k], by dsimp only; rw [hr]; rfl⟩, ?_, ?_, ?_, ?_, ?_, ?_⟩
      · dsimp only
        rw [List.nodup_append]
        exact ⟨I2, by simp, fun a ha b hb e => hin (by rw [List.mem_singleton.mp hb] at e; exact e ▸ ha)⟩
      · intro k' hk'
        rcases List.mem_append.mp hk' with q | q
        · exact List.mem_append_left _ (I3 k' q)
        · rw [List.mem_singleton.mp q]; simp
      · intro q hq
        rcases List.mem_append.mp hq with z | z
        · rcases I4 q z with h | ⟨k', h1, h2⟩
          · exact .inl h
          · exact .inr ⟨k', List.mem_append_left _ h1, h2⟩
        · exact .inr ⟨k, by simp, (List.mem_singleton.mp z).symm⟩
      · intro k' hk'
        dsimp only
        rw [look_snoc c k _ k' hc]
        rcases List.mem_append.mp hk' with q | q
        · rw [if_neg (fun (e : k' = k) => hk (e ▸ q)), I5 k' q, List.idxOf_append, if_pos (I3 k' q)]
        · rw [List.mem_singleton.mp q, if_pos rfl, hidx]
      · intro p hp
        rcases List.mem_append.mp hp with q | q
        · exact List.mem_append_left _ (I6 p q)
        · rw [List.mem_singleton.mp q]; simp
      · dsimp only
        rw [List.map_append, List.foldl_append, I7]
        simp only [List.map_cons, List.map_nil, List.foldl_cons, List.foldl_nil, List.length_append, List.length_singleton]
        unfold mx
        rw [if_pos (by omega)]; omega
/-- glyphs that say nothing may be left out -/
theorem num_filter (f : Int → List Int) (p0 : List Int) (P : Int → Bool) : ∀ l : List Int, l.Nodup → (∀ k ∈ l, P k = false → f k = p0) → num f p0 (l.filter P) = num f p0 l := by
  refine snocInd ?_ ?_
  · intro _ _; rfl
  · intro l k ih nd h
    have ndl : l.Nodup := (List.nodup_append.mp nd).1
    have ih := ih ndl fun k' hk' => h k' (List.mem_append_left _ hk')
    rw [List.filter_append]
    cases hP : P k with
    | true =>
      rw [List.filter_cons_of_pos hP, List.filter_nil, num_snoc, num_snoc, ih]
    | false =>
      rw [List.filter_cons_of_neg (by rw [hP]; simp), List.filter_nil, List.append_nil, num_snoc, ih]
      obtain ⟨r, hr⟩ := (num_inv f p0 l ndl).head
      have hf := h k (by simp) hP
      unfold numStep
      rw [hf]
      have hin : p0 ∈ (num f p0 l).1 := by rw [hr]; simp
      have hz : (num f p0 l).1.idxOf p0 = 0 := by rw [hr]; simp
      simp [hin, hz]
def R13 : List Int := (List.range 13).map Int.ofNat
theorem nd_R (n : Nat) : ((List.range n).map Int.ofNat).Nodup := by
  refine List.Pairwise.map _ (fun a b h e => h (Int.ofNat.inj e)) List.nodup_range
theorem has_none {c : List (Int × Int)} {k : Int} (h : k ∉ c.map (·.1)) : kdfLook c k 0 = 0 := look_none c k fun p hp e => h (e ▸ List.mem_map_of_mem hp)
theorem jn_eq (c d : List (Int × Int)) : jn c d = num (fr2 c d) [0, 0] R13 := by
  unfold jn up
  refine num_filter _ _ _ _ (nd_R 13) fun k _ hP => ?_
  have h : k ∉ c.map (·.1) ++ d.map (·.1) := by
    intro hm
    rw [List.contains_iff_mem.mpr hm] at hP; cases hP
  rw [List.mem_append, not_or] at h
  unfold fr2
  rw [has_none h.1, has_none h.2]
theorem jn_inv (c d : List (Int × Int)) : NumInv (fr2 c d) [0, 0] R13 (jn c d) := by rw [jn_eq]; exact num_inv _ _ _ (nd_R 13)
theorem mem_R {i : Nat} (h : i < 13) : (i : Int) ∈ R13 := List.mem_map.mpr ⟨i, List.mem_range.mpr h, rfl⟩
theorem idxOf_inj {l : List (List Int)} {a b : List Int} (ha : a ∈ l) (hb : b ∈ l) (e : l.idxOf a = l.idxOf b) : a = b := by
  have h1 : l[l.idxOf a]'(List.idxOf_lt_length_of_mem ha) = a := List.getElem_idxOf _
  have h2 : l[l.idxOf b]'(List.idxOf_lt_length_of_mem hb) = b := List.getElem_idxOf _
  rw [← h1, ← h2]; simp only [e]
theorem jn_look (c d : List (Int × Int)) {i j : Nat} (hi : i < 13) (hj : j < 13) :
    kdfLook (jn c d).2 (i : Int) 0 = kdfLook (jn c d).2 (j : Int) 0 ↔ kdfLook c i 0 = kdfLook c j 0 ∧ kdfLook d i 0 = kdfLook d j 0 := by
  have I := jn_inv c d
  rw [I.look _ (mem_R hi), I.look _ (mem_R hj)]
  constructor
  · intro e
    have := idxOf_inj (I.mem _ (mem_R hi)) (I.mem _ (mem_R hj)) (by omega)
    simpa [fr2] using this
  · rintro ⟨h1, h2⟩
    have : fr2 c d i = fr2 c d j := by unfold fr2; rw [h1, h2]
    rw [this]
theorem idxOf_congr {α : Type} {φ ψ : α → Dv} : ∀ (l : List α) (a : α), (∀ x ∈ l, φ x = φ a ↔ ψ x = ψ a) → (l.map φ).idxOf (φ a) = (l.map ψ).idxOf (ψ a)
  | [], _, _ => rfl
  | x :: l, a, h => by
    rw [List.map_cons, List.map_cons, List.idxOf_cons, List.idxOf_cons, idxOf_congr l a fun y hy => h y (.tail _ hy)]
    have := h x (.head _)
    by_cases e : φ x = φ a
    · rw [beq_iff_eq.mpr e, beq_iff_eq.mpr (this.mp e)]
    · rw [beq_eq_false_iff_ne.mpr e, beq_eq_false_iff_ne.mpr fun z => e (this.mpr z)]
theorem idx_congr {φ ψ : Nat → Dv} (h : ∀ i, i < 13 → ∀ j, j < 13 → (φ i = φ j ↔ ψ i = ψ j)) : idx ((List.range 13).map φ) = idx ((List.range 13).map ψ) := by
  unfold idx
  rw [List.map_map, List.map_map]
  refine List.map_congr_left fun i hi => ?_
  dsimp only [Function.comp]
  rw [idxOf_congr (List.range 13) i fun x hx => h x (List.mem_range.mp hx) i (List.mem_range.mp hi)]
end
section
open PySem PySem.W PyProof.Rows PySem.Calls
set_option maxRecDepth 100000
theorem num_prefix (f : Int → List Int) (p0 : List Int) (l : List Int) : ∀ m : List Int, ∃ ext, (num f p0 (l ++ m)).1 = (num f p0 l).1 ++ ext := by
  refine snocInd ⟨[], by simp⟩ ?_
  intro m k ⟨ext, e⟩
  rw [← List.append_assoc, num_snoc]
  unfold numStep
  dsimp only
  split
  · exact ⟨ext, e⟩
  · exact ⟨ext ++ [f k], by rw [e, List.append_assoc]⟩
theorem idxOf_is {A : List Dv} {n : Nat} {x : Dv} (h : A[n]? = some x) : A.idxOf x = n ↔ ∀ j, j < n → A[j]? ≠ some x := by
  obtain ⟨h1, h2⟩ := idx_at h
  constructor
  · intro e; rw [e] at h2; exact h2
  · intro hj
    rcases Nat.lt_trichotomy (A.idxOf x) n with q | q | q
    · exact absurd h1 (hj _ q)
    · exact q
    · exact absurd h (h2 n q)
theorem firstIs_iff (c d : List (Int × Int)) {n : Nat} (hn : n < 13) : firstIs (jn c d).2 n = true ↔ fr2 c d n ∉ (num (fr2 c d) [0, 0] ((List.range n).map Int.ofNat)).1 := by
  have I := jn_inv c d
  have J := num_inv (fr2 c d) [0, 0] _ (nd_R n)
  have e1 : kdfLook (jn c d).2 (n : Int) 0 ≠ 0 ↔ fr2 c d n ≠ [0, 0] := by
    rw [I.look _ (mem_R hn)]
    obtain ⟨r, hr⟩ := I.head
    rw [hr, List.idxOf_cons]
    by_cases e : [0, 0] = fr2 c d n
    · rw [beq_iff_eq.mpr e]; simp [← e]
    · rw [beq_eq_false_iff_ne.mpr e]; simp [Ne.symm e]; omega
  have e2 : ((parting (jn c d).2)[n]? = some (.i (n : Int))) ↔ ∀ j, j < n → fr2 c d j ≠ fr2 c d n := by
    have hA : ∀ j, j < 13 → ((List.range 13).map fun (i : Nat) => Dv.i (kdfLook (jn c d).2 (i : Int) 0))[j]? = some (.i (kdfLook (jn c d).2 (j : Int) 0)) := fun j hj => by rw [List.getElem?_map, List.getElem?_range hj]; rfl
    unfold parting idx
    rw [List.getElem?_map, hA n hn]
    simp only [Option.map_some, Option.some.injEq, Dv.i.injEq, Int.natCast_inj]
    rw [idxOf_is (hA n hn)]
    constructor
    · intro h j hj e
      refine h j hj ?_
      rw [hA j (by omega), (jn_look c d (by omega) hn).mpr (by simpa [fr2] using e)]
    · intro h j hj e
      rw [hA j (by omega)] at e
      simp only [Option.some.injEq, Dv.i.injEq] at e
      refine h j hj ?_
      have := (jn_look c d (by omega) hn).mp e
      unfold fr2; rw [this.1, this.2]
  unfold firstIs
  rw [Bool.and_eq_true, decide_eq_true_eq, decide_eq_true_eq, e1, e2]
  constructor
  · rintro ⟨h1, h2⟩ hm
    rcases J.src _ hm with q | ⟨k, hk, q⟩
    · exact h1 q
    · obtain ⟨j, hj, rfl⟩ := List.mem_map.mp hk
      exact h2 j (List.mem_range.mp hj) q
  · intro h
    refine ⟨fun e => h ?_, fun j hj e => h ?_⟩
    · obtain ⟨r, hr⟩ := J.head
      rw [hr, e]; simp
    · have := J.mem (j : Int) (List.mem_map.mpr ⟨j, List.mem_range.mpr hj, rfl⟩)
      rwa [e] at this
theorem firsts_pre (c d : List (Int × Int)) : ∀ n, n ≤ 13 → ((List.range n).filter (firstIs (jn c d).2)).map (fun (i : Nat) => kdfLook (jn c d).2 (i : Int) 0) =
    (List.range ((num (fr2 c d) [0, 0] ((List.range n).map Int.ofNat)).1.length - 1)).map fun (j : Nat) => (1 : Int) + (j : Int)
  | 0, _ => rfl
  | n + 1, hn => by
    have ih := firsts_pre c d n (by omega)
    have hf := firstIs_iff c d (n := n) (by omega)
    have I := jn_inv c d
    have J := num_inv (fr2 c d) [0, 0] _ (nd_R n)
    have eR : (List.range (n + 1)).map Int.ofNat = (List.range n).map Int.ofNat ++ [(n : Int)] := by rw [List.range_succ, List.map_append]; rfl
    rw [List.range_succ, List.filter_append, List.map_append, ih]
    rw [← List.range_succ, eR, num_snoc]
    have hpos : 0 < (num (fr2 c d) [0, 0] ((List.range n).map Int.ofNat)).1.length := by obtain ⟨r, hr⟩ := J.head; rw [hr]; simp
    by_cases h : firstIs (jn c d).2 n = true
    · have hnot := hf.mp h
      rw [List.filter_cons_of_pos h]
      have ek : (numStep (fr2 c d) (num (fr2 c d) [0, 0] ((List.range n).map Int.ofNat)) (n : Int)).1 = (num (fr2 c d) [0, 0] ((List.range n).map Int.ofNat)).1 ++ [fr2 c d n] := by
        unfold numStep; simp only [hnot, if_false]
      rw [ek, List.length_append, List.length_singleton]
      have el : kdfLook (jn c d).2 (n : Int) 0 = ((num (fr2 c d) [0, 0] ((List.range n).map Int.ofNat)).1.length : Int) := by
        rw [I.look _ (mem_R (by omega)), jn_eq]
        have e13 : R13 = ((List.range n).map Int.ofNat ++ [(n : Int)]) ++ ((List.range 13).drop (n + 1)).map Int.ofNat := by
          rw [← eR, ← List.map_append]
          unfold R13
          congr 1
          rw [show List.range (n + 1) = (List.range 13).take (n + 1) by rw [List.take_range]; congr 1; omega, List.take_append_drop]
        rw [e13]
        obtain ⟨ext, e⟩ := num_prefix (fr2 c d) [0, 0] ((List.range n).map Int.ofNat ++ [(n : Int)]) (((List.range 13).drop (n + 1)).map Int.ofNat)
        rw [e, num_snoc, ek, List.idxOf_append, if_pos (by simp), List.idxOf_append, if_neg hnot]
        simp
      generalize (num (fr2 c d) [0, 0] ((List.range n).map Int.ofNat)).1.length = K at hpos el ⊢
      obtain ⟨K, rfl⟩ : ∃ k, K = k + 1 := ⟨K - 1, by omega⟩
      rw [show K + 1 + 1 - 1 = K + 1 from rfl, show K + 1 - 1 = K from rfl, List.range_succ (n := K), List.map_append]
      simp only [List.filter_nil, List.map_cons, List.map_nil, el]
      congr 2
      omega
    · have hin : fr2 c d n ∈ (num (fr2 c d) [0, 0] ((List.range n).map Int.ofNat)).1 := Classical.byContradiction fun z => h (hf.mpr z)
      rw [List.filter_cons_of_neg h]
      have ek : (numStep (fr2 c d) (num (fr2 c d) [0, 0] ((List.range n).map Int.ofNat)) (n : Int)).1 = (num (fr2 c d) [0, 0] ((List.range n).map Int.ofNat)).1 := by
        unfold numStep; simp only [hin, if_true]
      rw [ek]; simp
/-! turned about -/
theorem num_map (σ : List Int → List Int) (inj : ∀ a b, σ a = σ b → a = b) (f : Int → List Int) (p0 : List Int) : ∀ l : List Int, num (fun k => σ (f k)) (σ p0) l = ((num f p0 l).1.map σ, (num f p0 l).2) := by
  have mem : ∀ (l : List (List Int)) a, σ a ∈ l.map σ ↔ a ∈ l := fun l a => ⟨fun h => let ⟨b, hb, e⟩ := List.mem_map.mp h; inj _ _ e ▸ hb, fun h => List.mem_map_of_mem h⟩
  have idx : ∀ (l : List (List Int)) a, (l.map σ).idxOf (σ a) = l.idxOf a := by
    intro l a
    induction l with
    | nil => rfl
    | cons x l ih =>
      rw [List.map_cons, List.idxOf_cons, List.idxOf_cons, ih]
      by_cases e : x = a
      · rw [beq_iff_eq.mpr e, beq_iff_eq.mpr (congrArg σ e)]
      · rw [beq_eq_false_iff_ne.mpr e, beq_eq_false_iff_ne.mpr fun z => e (inj _ _ z)]
  refine snocInd rfl ?_
  intro l k ih
  rw [num_snoc, num_snoc, ih]
  generalize num f p0 l = st
  obtain ⟨kept, c⟩ := st
  unfold numStep
  dsimp only
  by_cases h : f k ∈ kept
  · have h' := (mem kept (f k)).mpr h
    simp only [h, h', if_true, idx]
  · have h' : ¬ σ (f k) ∈ kept.map σ := fun z => h ((mem kept (f k)).mp z)
    have := idx (kept ++ [f k]) (f k)
    rw [List.map_append] at this
    simp only [List.map_cons, List.map_nil] at this
    simp only [h, h', if_false, this, List.map_append, List.map_cons, List.map_nil]
theorem jn_turn (c d : List (Int × Int)) : jn d c = ((jn c d).1.map List.reverse, (jn c d).2) := by
  rw [jn_eq, jn_eq]
  have := num_map List.reverse (fun a b h => by simpa using congrArg List.reverse h) (fr2 c d) [0, 0] R13
  exact this
theorem jn_pair (c d : List (Int × Int)) : ∀ q ∈ (jn c d).1, ∃ a b, q = [a, b] := by
  intro q hq
  rcases (jn_inv c d).src q hq with h | ⟨k, _, h⟩
  · exact ⟨0, 0, h⟩
  · exact ⟨_, _, h.symm⟩
/-! counts -/
theorem dist_mem (ns : List Int) : (dist ns).Nodup ∧ ∀ x, x ∈ dist ns ↔ x ∈ ns := by
  revert ns
  refine snocInd ⟨by simp [dist], by simp [dist]⟩ ?_
  rintro l a ⟨h1, h2⟩
  rw [dist_snoc]
  unfold step_dedup
  by_cases h : a ∈ l
  · have : (dist l).any (· == a) = true := List.any_eq_true.mpr ⟨a, (h2 a).mpr h, by simp⟩
    rw [if_pos this]
    refine ⟨h1, fun x => ?_⟩
    rw [h2, List.mem_append]
    constructor
    · exact .inl
    · rintro (q | q)
      · exact q
      · rw [List.mem_singleton.mp q]; exact h
  · have : ¬ (dist l).any (· == a) = true := by
      intro z
      obtain ⟨y, hy, e⟩ := List.any_eq_true.mp z
      rw [beq_iff_eq] at e; subst e
      exact h ((h2 y).mp hy)
    rw [if_neg this]
    refine ⟨?_, fun x => by rw [List.mem_append, List.mem_append, h2]⟩
    rw [List.nodup_append]
    exact ⟨h1, by simp, fun x hx y hy e => h ((h2 a).mp (by rw [List.mem_singleton.mp hy] at e; exact e ▸ hx))⟩
theorem jn_count (c d : List (Int × Int)) (hg : Good c) (nd : (c.map (·.1)).Nodup) (hd : ∀ i : Nat, i < 13 → ∀ j : Nat, j < 13 → kdfLook c i 0 = kdfLook c j 0 → kdfLook d i 0 = kdfLook d j 0) (hz : ∀ i : Nat, i < 13 → kdfLook c i 0 = 0 → kdfLook d i 0 = 0) :
    cnt (jn c d).2 = ((dist (c.map (·.2))).length : Int) + 1 := by
  have I := jn_inv c d
  have e1 : cnt (jn c d).2 = ((jn c d).1.length : Int) := by unfold cnt; rw [I.cnt]; omega
  rw [e1]
  have hh : ∀ k ∈ R13, (fr2 c d k).headD 0 = kdfLook c k 0 := fun k _ => rfl
  have inj : ∀ a ∈ (jn c d).1, ∀ b ∈ (jn c d).1, a.headD 0 = b.headD 0 → a = b := by
    intro a ha b hb e
    have key : ∀ q ∈ (jn c d).1, q = [0, 0] ∨ ∃ i : Nat, i < 13 ∧ q = fr2 c d i := by
      intro q hq
      rcases I.src q hq with h | ⟨k, hk, h⟩
      · exact .inl h
      · obtain ⟨i, hi, rfl⟩ := List.mem_map.mp hk
        exact .inr ⟨i, List.mem_range.mp hi, h.symm⟩
    rcases key a ha with rfl | ⟨i, hi, rfl⟩ <;> rcases key b hb with rfl | ⟨j, hj, rfl⟩
    · rfl
    · have e : (0 : Int) = kdfLook c j 0 := e
      unfold fr2; rw [← e, hz j hj e.symm]
    · have e : kdfLook c i 0 = 0 := e
      unfold fr2; rw [e, hz i hi e]
    · have e : kdfLook c i 0 = kdfLook c j 0 := e
      unfold fr2; rw [e, hd i hi j hj e]
  have nd1 : ((jn c d).1.map fun q => q.headD 0).Nodup := by
    have := I.nd
    rw [List.Nodup, List.pairwise_map]
    exact this.imp_of_mem fun {a b} ha hb hab e => hab (inj a ha b hb e)
  have nd2 : (0 :: dist (c.map (·.2))).Nodup := by
    rw [List.nodup_cons]
    refine ⟨fun h => ?_, (dist_mem _).1⟩
    obtain ⟨p, hp, e⟩ := List.mem_map.mp (((dist_mem _).2 0).mp h)
    have := (hg p hp).2.2.1
    omega
  have pm : ((jn c d).1.map fun q => q.headD 0).Perm (0 :: dist (c.map (·.2))) := by
    rw [List.perm_ext_iff_of_nodup nd1 nd2]
    intro x
    rw [List.mem_cons, (dist_mem _).2, List.mem_map, List.mem_map]
    constructor
    · rintro ⟨q, hq, rfl⟩
      rcases I.src q hq with rfl | ⟨k, hk, rfl⟩
      · exact .inl rfl
      · by_cases h0 : kdfLook c k 0 = 0
        · exact .inl h0
        · right
          by_cases hm : k ∈ c.map (·.1)
          · obtain ⟨p, hp, rfl⟩ := List.mem_map.mp hm
            obtain ⟨i, hi⟩ := List.mem_iff_getElem?.mp hp
            exact ⟨p, hp, (look_at nd hi).1.symm⟩
          · exact absurd (has_none hm) h0
    · rintro (rfl | ⟨p, hp, rfl⟩)
      · obtain ⟨r, hr⟩ := I.head
        exact ⟨[0, 0], by rw [hr]; simp, rfl⟩
      · obtain ⟨i, hi⟩ := List.mem_iff_getElem?.mp hp
        have hb := hg p hp
        have : p.1 ∈ R13 := List.mem_map.mpr ⟨p.1.toNat, List.mem_range.mpr (by omega), by simp; omega⟩
        exact ⟨_, I.mem _ this, (look_at nd hi).1⟩
  have := pm.length_eq
  rw [List.length_map, List.length_cons] at this
  rw [this]; simp
/-! the join of two drawn ones -/
theorem look_range (c : List (Int × Int)) (hg : Good c) (nd : (c.map (·.1)).Nodup) (k : Int) : 0 ≤ kdfLook c k 0 ∧ kdfLook c k 0 ≤ 3 := by
  by_cases hm : k ∈ c.map (·.1)
  · obtain ⟨p, hp, rfl⟩ := List.mem_map.mp hm
    obtain ⟨i, hi⟩ := List.mem_iff_getElem?.mp hp
    rw [(look_at nd hi).1]
    have := hg p hp
    omega
  · rw [has_none hm]; omega
theorem mem_p16 {a b : Int} (ha : 0 ≤ a ∧ a ≤ 3) (hb : 0 ≤ b ∧ b ≤ 3) : [a, b] ∈ p16 := by
  have h : ∀ x : Nat, x < 4 → ∀ y : Nat, y < 4 → [(x : Int), (y : Int)] ∈ p16 := by decide
  have := h a.toNat (by omega) b.toNat (by omega)
  rwa [Int.toNat_of_nonneg ha.1, Int.toNat_of_nonneg hb.1] at this
theorem jn_keys (c d : List (Int × Int)) : ∀ k ∈ (jn c d).2.map (·.1), 0 ≤ k ∧ k < 13 := by
  intro k hk
  obtain ⟨p, hp, rfl⟩ := List.mem_map.mp hk
  obtain ⟨i, hi, e⟩ := List.mem_map.mp ((jn_inv c d).keys p hp)
  rw [← e]
  have := List.mem_range.mp hi
  exact ⟨Int.natCast_nonneg i, by simp; omega⟩
theorem both_facts {c d : List (Int × Int)} (hg : Good c) (hg' : Good d) (nd : (c.map (·.1)).Nodup) (nd' : (d.map (·.1)).Nodup) : BothF c d := by
  have I := jn_inv c d
  refine ⟨?_, ?_, ?_, I.nd, ?_, ?_, ?_, ?_, ?_, jn_keys c d⟩
  · unfold parting marks2
    refine idx_congr fun i hi j hj => ?_
    rw [Dv.i.injEq, jn_look c d hi hj, Dv.t.injEq]
    simp [fr2]
  · intro i hi; rw [I.look _ (mem_R hi)]; omega
  · intro i hi
    rw [I.look _ (mem_R hi)]
    have hm := I.mem _ (mem_R hi)
    rw [Int.toNat_natCast, List.getElem?_eq_getElem (List.idxOf_lt_length_of_mem hm), List.getElem_idxOf]
  · intro q hq
    rcases I.src q hq with rfl | ⟨k, _, rfl⟩
    · exact mem_p16 (by omega) (by omega)
    · exact mem_p16 (look_range c hg nd k) (look_range d hg' nd' k)
  · have := (num_len (fr2 c d) [0, 0] R13).1
    rw [← jn_eq] at this
    exact this
  · obtain ⟨r, hr⟩ := I.head; rw [hr]; rfl
  · unfold cnt; rw [I.cnt]; omega
  · have := firsts_pre c d 13 (Nat.le_refl _)
    rw [show (List.range 13).map Int.ofNat = R13 from rfl, ← jn_eq] at this
    exact this
/-! three joined -/
def marks3 (a b c : List (Int × Int)) : List Dv := (List.range 13).map fun (i : Nat) => Dv.t [kdfLook a i 0, kdfLook b i 0, kdfLook c i 0]
theorem due_of {u : List (Int × Int)} {a b c : List (Int × Int)} (h : ∀ i : Nat, i < 13 → ∀ j : Nat, j < 13 → (kdfLook u i 0 = kdfLook u j 0 ↔ kdfLook a i 0 = kdfLook a j 0 ∧ kdfLook b i 0 = kdfLook b j 0 ∧ kdfLook c i 0 = kdfLook c j 0)) : parting u = idx (marks3 a b c) := by
  unfold parting marks3
  refine idx_congr fun i hi j hj => ?_
  rw [Dv.i.injEq, h i hi j hj, Dv.t.injEq]
  simp
def marks1 (c : List (Int × Int)) : List Dv := (List.range 13).map fun (i : Nat) => Dv.i (kdfLook c i 0)
theorem own_of {u c : List (Int × Int)} (h : ∀ i : Nat, i < 13 → ∀ j : Nat, j < 13 → (kdfLook u i 0 = kdfLook u j 0 ↔ kdfLook c i 0 = kdfLook c j 0)) : parting u = idx (marks1 c) := by
  unfold parting marks1
  refine idx_congr fun i hi j hj => ?_
  rw [Dv.i.injEq, h i hi j hj, Dv.i.injEq]
end
section
open PySem PySem.W PyProof.Rows PySem.Calls
set_option maxRecDepth 100000
section
variable {w : World} {A : Around} {E : Value → Shared → Prop} {s : Shared} {base g : Heap} {L l : Addr} {m : Str → Option Value} {V : List (Addr × Obj)} {env : Env} {vs : List Value} {ns : List Int}
theorem sub_ints : ∀ {vs : List Value} {ns : List Int}, IntsAre vs ns → ∀ v ∈ vs, ∃ n t, v = Value.int n t
  | _, _, .nil, _, h => by cases h
  | _, _, .cons n t r, v, h => by
    rcases List.mem_cons.mp h with rfl | h
    · exact ⟨n, t, rfl⟩
    · exact sub_ints r v h
theorem ints_of : ∀ (vs : List Value), (∀ v ∈ vs, ∃ n t, v = Value.int n t) → ∃ ns, IntsAre vs ns
  | [], _ => ⟨[], .nil⟩
  | v :: vs, h => by
    obtain ⟨n, t, rfl⟩ := h _ (.head _)
    obtain ⟨ns, r⟩ := ints_of vs fun v hv => h v (.tail _ hv)
    exact ⟨n :: ns, .cons n t r⟩
theorem fm_slice40 {value slice : PySem.Expr} {t : Tok} {Q : Value → Shared → Prop} (F : Fm base g L m V s.heap) (hl : g.IsList l vs.toArray) (hI : IntsAre vs ns) (hz : vs.length ≤ 1000)
    (k : ∀ g' h' T (cells : List Int), Fm base g' L m V h' → Le g g' → RL g' T (cells.map Dv.i) → cells.length ≤ 40 → Q (.ref T) { s with heap := h' })
    (hs : subscripted slice false (.ref l) (.ref s.heap.objs.size) = operate [.ref s.heap.objs.size, .ref l] (getItem (.ref l) (.ref s.heap.objs.size)) := by with_unfolding_all rfl)
    (ht : ∀ r, letTemporaryGo value (.ref l) r = pure () := by intro _; with_unfolding_all rfl) :
    wpAny (model pg w) A (subscriptTail value slice (.ref l) (.ref s.heap.objs.size)) Q E { s with heap := s.heap.push { cls := .type "slice", data := .fields #[.none, .int 40 t, .none] } } := by
  have hl' : s.heap.IsList l vs.toArray := let ⟨o, e, r⟩ := hl; ⟨o, F.le _ _ e, r⟩
  refine slice_list F.F F.news hl' .none (.int 40 t) (fun h' F' N' => ?_) hs ht (by rw [List.size_toArray, sizeLine_eq]; omega)
  have F2 : Fm base g L m V h' := F.of_news F' (fun p hp => N' p (.tail _ hp)) rfl
  obtain ⟨g', F3, l3, n3⟩ := F2.freeze
  have e := (N' _ (.head _)).1
  have e2 := n3 _ _ e (Nat.ne_of_gt (Nat.lt_succ_of_lt F.lt)) fun p hp q => by
    have := Heap.lt_size (F.vol p hp)
    dsimp only at q
    rw [q] at this
    exact absurd this (Nat.not_lt_of_le (Nat.le_succ _))
  have hmem : ∀ v ∈ (slicePick vs.toArray none (some 40) none).toList, v ∈ vs := by
    intro v hv
    unfold slicePick at hv
    rw [List.toList_toArray] at hv
    obtain ⟨i, _, hi⟩ := List.mem_filterMap.mp hv
    exact List.mem_of_getElem? (by simpa using hi)
  have hlen : (slicePick vs.toArray none (some 40) none).toList.length ≤ 40 := by
    unfold slicePick
    rw [List.toList_toArray]
    refine Nat.le_trans (List.length_filterMap_le _ _) (sliceRange_length_le _ _ _ _ (fun hc => ?_) fun hc => ?_)
    · simp only [sliceBounds, Option.getD_none]
      simp
      omega
    · simp [sliceBounds] at hc
  obtain ⟨cells, hc⟩ := ints_of (slicePick vs.toArray none (some 40) none).toList fun v hv => sub_ints hI v (hmem v hv)
  refine k g' h' _ cells F3 l3 ⟨(slicePick vs.toArray none (some 40) none).toList, ⟨_, e2, rfl, 0, by simp⟩, RA.ints (ns := []) hc⟩ ?_
  rw [← IntsAre.len hc]; exact hlen
end
end
section
open PySem PySem.W PyProof.Rows PySem.Calls
set_option maxRecDepth 100000
/-- drawn dicts -/
def DL (w : World) (g : Heap) (ys : List Value) (cs : List (List (Int × Int))) : Prop := ys.length = cs.length ∧ ∀ (i : Nat) v, ys[i]? = some v → ∃ d c, v = .ref d ∧ cs[i]? = some c ∧ ID w g d c ∧ Good c
/-- their definitions -/
def XL (w : World) (g : Heap) (ys : List Value) (cs : List (List (Int × Int))) : Prop := ys.length = cs.length ∧ ∀ (i : Nat) v, ys[i]? = some v → ∃ x a c, v = .ref x ∧ cs[i]? = some c ∧ CD g x a ∧ ID w g a c
section
variable {w : World} {A : Around} {E : Value → Shared → Prop} {s : Shared} {base g g' : Heap} {L l p cl d : Addr} {m mg mb : Str → Option Value} {V V1 V2 : List (Addr × Obj)} {env : Env} {ys : List Value} {cs : List (List (Int × Int))} {c : List (Int × Int)} {o : Obj} {seat rest : Int}
theorem DL.keeps (h : DL w g ys cs) (l : Le g g') : DL w g' ys cs := ⟨h.1, fun i v e => let ⟨d, c, a, b, r, q⟩ := h.2 i v e; ⟨d, c, a, b, r.keeps l, q⟩⟩
theorem XL.keeps (h : XL w g ys cs) (l : Le g g') : XL w g' ys cs := ⟨h.1, fun i v e => let ⟨x, a, c, q1, q2, q3, q4⟩ := h.2 i v e; ⟨x, a, c, q1, q2, q3.keeps l, q4.keeps l⟩⟩
theorem DL.snoc (h : DL w g ys cs) (i : ID w g d c) (q : Good c) : DL w g (ys ++ [.ref d]) (cs ++ [c]) := by
  refine ⟨by simp [h.1], fun j v e => ?_⟩
  rw [List.getElem?_append] at e
  split at e
  · rename_i hj
    obtain ⟨d, c, a, b, r⟩ := h.2 j v e
    exact ⟨d, c, a, by rw [List.getElem?_append, if_pos (by rw [← h.1]; exact hj)]; exact b, r⟩
  · rename_i hj
    cases hz : j - ys.length with
    | succ k => rw [hz] at e; simp at e
    | zero =>
      rw [hz] at e; simp at e; subst e
      exact ⟨d, c, rfl, by rw [List.getElem?_append, if_neg (by rw [← h.1]; exact hj), ← h.1, hz]; rfl, i, q⟩
theorem XL.snoc {x a : Addr} (h : XL w g ys cs) (hx : CD g x a) (i : ID w g a c) : XL w g (ys ++ [.ref x]) (cs ++ [c]) := by
  refine ⟨by simp [h.1], fun j v e => ?_⟩
  rw [List.getElem?_append] at e
  split at e
  · rename_i hj
    obtain ⟨d, a', c, q, b, r⟩ := h.2 j v e
    exact ⟨d, a', c, q, by rw [List.getElem?_append, if_pos (by rw [← h.1]; exact hj)]; exact b, r⟩
  · rename_i hj
    cases hz : j - ys.length with
    | succ k => rw [hz] at e; simp at e
    | zero =>
      rw [hz] at e; simp at e; subst e
      exact ⟨x, a, c, rfl, by rw [List.getElem?_append, if_neg (by rw [← h.1]; exact hj), ← h.1, hz]; rfl, hx, i⟩
theorem len3 {α : Type} {l : List α} (h : l.length = 3) : ∃ a b c, l = [a, b, c] := by
  cases l with
  | nil => cases h
  | cons a l => cases l with
    | nil => cases h
    | cons b l => cases l with
      | nil => cases h
      | cons c l => cases l with
        | nil => exact ⟨a, b, c, rfl⟩
        | cons d l => exact absurd h (by simp)
theorem DL.three (h : DL w g ys cs) (hl : cs.length = 3) : ∃ d0 d1 d2 c0 c1 c2, ys = [.ref d0, .ref d1, .ref d2] ∧ cs = [c0, c1, c2] ∧ (ID w g d0 c0 ∧ Good c0) ∧ (ID w g d1 c1 ∧ Good c1) ∧ (ID w g d2 c2 ∧ Good c2) := by
  obtain ⟨h1, h2⟩ := h
  rw [hl] at h1
  obtain ⟨a, b, c, rfl⟩ := len3 h1
  obtain ⟨p, q, r, rfl⟩ := len3 hl
  obtain ⟨d0, c0, rfl, e0, i0, g0⟩ := h2 0 a rfl
  obtain ⟨d1, c1, rfl, e1, i1, g1⟩ := h2 1 b rfl
  obtain ⟨d2, c2, rfl, e2, i2, g2⟩ := h2 2 c rfl
  cases e0; cases e1; cases e2
  exact ⟨d0, d1, d2, p, q, r, rfl, rfl, ⟨i0, g0⟩, ⟨i1, g1⟩, i2, g2⟩
theorem XL.three (h : XL w g ys cs) {c0 c1 c2 : List (Int × Int)} (hl : cs = [c0, c1, c2]) : ∃ x0 x1 x2 a0 a1 a2, ys = [.ref x0, .ref x1, .ref x2] ∧ (CD g x0 a0 ∧ ID w g a0 c0) ∧ (CD g x1 a1 ∧ ID w g a1 c1) ∧ (CD g x2 a2 ∧ ID w g a2 c2) := by
  obtain ⟨h1, h2⟩ := h
  subst hl
  obtain ⟨a, b, c, rfl⟩ := len3 h1
  obtain ⟨d0, a0, c0, rfl, e0, i0⟩ := h2 0 a rfl
  obtain ⟨d1, a1, c1, rfl, e1, i1⟩ := h2 1 b rfl
  obtain ⟨d2, a2, c2, rfl, e2, i2⟩ := h2 2 c rfl
  cases e0; cases e1; cases e2
  exact ⟨d0, d1, d2, a0, a1, a2, rfl, i0, i1, i2⟩
theorem lclasses_at {cells : List Int} {Q : Value → Shared → Prop} (D : Md w base mg mb) (F : Fm base g L m (V1 ++ (p, o) :: V2) s.heap) (R : Room A 8) (P : PO o cl seat rest) (hcl : RL g cl (cells.map .i)) (hz : cells.length ≤ 40)
    (hs0 : 0 ≤ seat) (hs1 : seat ≤ 900) (hr : 0 ≤ rest)
    (h : ∀ g' h' tk d c o' seat' rest', Fm base g' L m (V1 ++ (p, o') :: V2) h' → Le g g' → ID w g' d c → Good c → PO o' cl seat' rest' → 0 ≤ seat' → seat' ≤ seat + 19 → 0 ≤ rest' → Q (.ref d) { s with heap := h', toks := tk }) :
    wpAny (model pg w) A (call (.ref 96) [.ref p]) Q E s :=
  lclasses_spec D (F.perm List.perm_middle) R P hcl hz hs0 hs1 hr fun g' h' tk d c o' seat' rest' F' => h g' h' tk d c o' seat' rest' (F'.perm List.perm_middle.symm)
theorem Good.keys (h : Good c) : ∀ k ∈ c.map (·.1), 0 ≤ k ∧ k < 13 := by
  intro k hk
  obtain ⟨p, hp, rfl⟩ := List.mem_map.mp hk
  have := h p hp
  omega
end
end
section
open PySem PySem.W PyProof.Rows PySem.Calls
set_option maxRecDepth 100000
section
variable {w : World} {A : Around} {E : Value → Shared → Prop} {s : Shared} {base g g' : Heap} {L l a b d : Addr} {m mg mb : Str → Option Value} {V V1 V2 : List (Addr × Obj)} {env : Env} {ys : List Value} {cs : List (List (Int × Int))} {c : List (Int × Int)} {o : Obj}
theorem fm_dictOf {Q : Value → Shared → Prop} (D : Md w base mg mb) (F : Fm base g L m V s.heap) (i : ID w g d c) (hz : c.length ≤ 1000)
    (k : ∀ g' h' x, Fm base g' L m V h' → Le g g' → ID w g' x c → Q (.ref x) { s with heap := h' }) : wpAny (model pg w) A (call (.type "dict") [.ref d]) Q E s := by
  refine kt_dict_K (knd := intKind pg w) (enc := PyData.int) F.F F.news D.lim (i.keeps F.le) (by rw [kdfD_length, sizeLine_eq]; omega) fun x h' o kvs F' N' lt lo hd hf => ?_
  have F2 : Fm base g L m V h' := F.of_news F' (fun p hp => N' p (.tail _ hp)) rfl
  obtain ⟨g', F3, l3, n3⟩ := F2.freeze
  have hx := N' (x, o) (.head _)
  have e2 := n3 x o hx.1 hx.2.1 fun p hp q => by
    have := lt p (List.mem_append_left _ hp)
    rw [q] at this
    exact absurd this (Nat.lt_irrefl _)
  exact k g' h' x F3 l3 ⟨lo, kvs, Heap.dictOf_iff.mpr ⟨o, e2, hd⟩, hf⟩
theorem ID.nil {g : Heap} (lo : (d == sysModules) = false) (e : g.get? d = some emptyDict) : ID w g d [] := ⟨lo, [], Heap.dictOf_iff.mpr ⟨_, e, ed_nil w⟩, .nil⟩

theorem rows_same {c : List (Int × Int)} (nd : (c.map (·.1)).Nodup) : ∀ r : List (Int × Int), (∀ p ∈ r, p ∈ c) → KeqRows (kdfD c) (kdfD r) true
  | [], _ => .nil
  | (k, v) :: r, h => by
    have hl : PySem.Spec.lookup (PyData.int k) (kdfD c) = some (PyData.int v) := by
      obtain ⟨i, hi⟩ := List.mem_iff_getElem?.mp (h (k, v) (.head _))
      obtain ⟨h1, h2⟩ := look_at nd hi
      have := kdfD_item h2
      rw [h1] at this
      exact this
    have := KeqRows.hit (v := PyData.int v) hl (rows_same nd r fun p hp => h p (.tail _ hp))
    have e : (PyData.eqv (PyData.int v) (PyData.int v) && true) = true := by simp [PyData.eqv]
    rw [e] at this
    exact this
theorem eq_id {Q : Value → Shared → Prop} (R : A.units < cLine) (nd : (c.map (·.1)).Nodup) (ia : ID w s.heap a c) (ib : ID w s.heap b c) (h : Q (.bool true) s) : wpAny (model pg w) A (compareOp .Eq (.ref a) (.ref b)) Q E s :=
  keq_tabs (knd := intKind pg w) PyProof.V.same_int ia ib rfl R (rows_same nd c fun p hp => hp) h
theorem pairs_any {prog : Program} {w' : World} {es : List DictEntry} {kvs : List (Int × Value)} (h : Pairs (intKind pg w) es kvs) : Pairs (intKind prog w') es kvs := by
  induction h with
  | nil => exact .nil
  | cons h1 h2 _ ih => exact .cons h1 h2 ih
theorem id_any {prog : Program} {w' : World} {h : Heap} {D : List (PyData × PyData)} (i : TabAt (intKind pg w) PyData.int h a D) : TabAt (intKind prog w') PyData.int h a D := by
  obtain ⟨lo, kvs, ⟨o, es, ep, e1, e2, e3, hk, hp, nd⟩, hf⟩ := i
  exact ⟨lo, kvs, ⟨o, es, ep, e1, e2, e3, hk, pairs_any hp, nd⟩, hf⟩
theorem eqAt_id (R : A.units < cLine) (nd : (c.map (·.1)).Nodup) (ia : ID w s.heap a c) (ib : ID w s.heap b c) : SeqAt.EqAt A s (.ref a) (.ref b) true := by
  intro prog w' E Q h
  unfold eqBool
  try with_reducible refine wpAny_holding ?_
  show wpAny _ _ (if (Value.ref a == Value.ref b) = true then _ else _) Q E s
  by_cases hab : (Value.ref a == Value.ref b) = true
  · rw [if_pos hab]
    exact wpAny_bind (wpAny_rule (wpAny_pure h))
  · rw [if_neg hab]
    have ia' : TabAt (intKind prog w') PyData.int s.heap a (kdfD c) := id_any ia
    have ib' : TabAt (intKind prog w') PyData.int s.heap b (kdfD c) := id_any ib
    exact wpAny_bind (keq_tabs (knd := intKind prog w') PyProof.V.same_int ia' ib' rfl R (rows_same nd c fun p hp => hp) (wpAny_truthy_bool h))
/-- two lists of dicts, the same place by place -/
theorem eq_lists {us vs : List Value} {Q : Value → Shared → Prop} (R : Room A 0) (ha : s.heap.IsList a us.toArray) (hb : s.heap.IsList b vs.toArray) (hl : us.length = vs.length)
    (he : ∀ (j : Nat) u v, us[j]? = some u → vs[j]? = some v → ∃ x y c, u = .ref x ∧ v = .ref y ∧ (c.map (·.1)).Nodup ∧ ID w s.heap x c ∧ ID w s.heap y c) (h : Q (.bool true) s) : wpAny (model pg w) A (compareOp .Eq (.ref a) (.ref b)) Q E s := by
  obtain ⟨⟨cls, dd, data, sl⟩, ho, hc, n, hd⟩ := ha
  obtain ⟨⟨cls2, dd2, data2, sl2⟩, ho2, hc2, n2, hd2⟩ := hb
  simp only at hc hd hc2 hd2
  subst hc hd hc2 hd2
  have hu := R.units
  refine wpAny_richCompare_same_room (op := .Eq) ⟨_, ho, rfl⟩ ⟨_, ho2, rfl⟩ PySem.F.slot_list_eq (call_meets PySem.F.slot_list_eq ⟨_, ho, rfl⟩ PySem.F.entry_list_eq (PySem.F.args_list_eq_2 _ _)
    (SeqAt.list_eqAt a b us.toArray vs.toArray n n2 dd dd2 sl sl2 (by simpa using hl) (fun _ => true)) ⟨ho, ho2, fun j h1 h2 => ?_, ?_⟩) (by omega)
  · have h1' : j < us.length := by simpa using h1
    have h2' : j < vs.length := by simpa using h2
    obtain ⟨x, y, c, e1, e2, nd, i1, i2⟩ := he j us[j] vs[j] (List.getElem?_eq_getElem h1') (List.getElem?_eq_getElem h2')
    simp only [List.getElem_toArray]
    rw [e1, e2]
    exact eqAt_id (by first | omega | (show A.units + 1 < cLine; omega) | (show A.units + 1 + 1 < cLine; omega)) nd i1 i2
  · have e : ((List.range us.toArray.size).all fun _ => true) = true := by simp
    rw [e]
    exact ⟨(fun x => nomatch x), h⟩
theorem fm_pen {cl : Addr} {t u : Tok} {Q : Value → Shared → Prop} (F : Fm base g L m V s.heap) (k : ∀ h' P po, PO po cl 0 0 → Fm base g L m ((P, po) :: V) h' → Q (.ref P) { s with heap := h' }) :
    wpAny (model pg w) A (newList [.ref cl, .int 0 t, .int 0 u]) Q E s :=
  fm_listV F fun h' P F' => k h' P _ ⟨rfl, 0, t, u, rfl⟩ F'
end
end
section
open PySem PySem.W PyProof.Rows PySem.Calls
set_option maxRecDepth 100000
theorem vmap {xs : List Addr} {k : Nat} {x : Addr} (e : xs[k]? = some x) : (xs.map Value.ref)[k]? = some (.ref x) := by rw [List.getElem?_map, e]; rfl
theorem pair_vals {vs : List Value} {p q : Int} (h : IntsAre vs [p, q]) : ∃ t u, vs = [.int p t, .int q u] := by
  cases h with | cons _ t r => cases r with | cons _ u r => cases r; exact ⟨t, u, rfl⟩
theorem triple_vals {vs : List Value} {p q r : Int} (h : IntsAre vs [p, q, r]) : ∃ t u v, vs = [.int p t, .int q u, .int r v] := by
  cases h with | cons _ t r => cases r with | cons _ u r => cases r with | cons _ v r => cases r; exact ⟨t, u, v, rfl⟩
/-- the k-th statement of law -/
def Nth (P : Params) (k : Nat) (fd : FuncData) (st : Stmt) : Prop := ∃ c o sl b, (Kf P).lookup 116 = some ⟨c, o, .func fd, sl⟩ ∧ fd.body = .stmts b ∧ b[k]? = some st
theorem Nth.det {P : Params} {k : Nat} {fd fd' : FuncData} {st st' : Stmt} (a : Nth P k fd st) (b : Nth P k fd' st') : fd = fd' ∧ st = st' := by
  obtain ⟨c, o, sl, l, h1, h2, h3⟩ := a
  obtain ⟨c', o', sl', l', h1', h2', h3'⟩ := b
  rw [h1] at h1'
  cases h1'
  rw [h2] at h2'
  cases h2'
  rw [h3] at h3'
  cases h3'
  exact ⟨rfl, rfl⟩
def lenv (fd : FuncData) (L fa : Addr) (cd : Value) : Env := envOfC fd.qualname fd.scope L fa cd
/-- what law knows once all is drawn -/
structure LawSt (w : World) (g : Heap) (L ld ldf d0 d1 d2 x0 x1 x2 a0 a1 a2 xn dn : Addr) (c0 c1 c2 : List (Int × Int)) : Prop where
  cell : g.IsCell (L + 1 + 1) (some (.ref ld))
  dl : g.get? ld = some (LCg.lst [.ref d0, .ref d1, .ref d2])
  xl : g.get? ldf = some (LCg.lst [.ref x0, .ref x1, .ref x2])
  i0 : ID w g d0 c0
  i1 : ID w g d1 c1
  i2 : ID w g d2 c2
  j0 : ID w g a0 c0
  j1 : ID w g a1 c1
  j2 : ID w g a2 c2
  y0 : CD g x0 a0
  y1 : CD g x1 a1
  y2 : CD g x2 a2
  gd0 : Good c0
  gd1 : Good c1
  gd2 : Good c2
  yn : CD g xn dn
  jn : ID w g dn []
section
variable {w : World} {g g' : Heap} {L ld ldf d0 d1 d2 x0 x1 x2 a0 a1 a2 xn dn : Addr} {c0 c1 c2 : List (Int × Int)}
theorem LawSt.keeps (S : LawSt w g L ld ldf d0 d1 d2 x0 x1 x2 a0 a1 a2 xn dn c0 c1 c2) (l : Le g g') : LawSt w g' L ld ldf d0 d1 d2 x0 x1 x2 a0 a1 a2 xn dn c0 c1 c2 :=
  ⟨S.cell.keeps l, l _ _ S.dl, l _ _ S.xl, S.i0.keeps l, S.i1.keeps l, S.i2.keeps l, S.j0.keeps l, S.j1.keeps l, S.j2.keeps l, S.y0.keeps l, S.y1.keeps l, S.y2.keeps l, S.gd0, S.gd1, S.gd2, S.yn.keeps l, S.jn.keeps l⟩
/-- the k-th of three, its dict, its definition -/
theorem LawSt.nth (S : LawSt w g L ld ldf d0 d1 d2 x0 x1 x2 a0 a1 a2 xn dn c0 c1 c2) {k : Int} (h0 : 0 ≤ k) (h3 : k < 3) :
    ∃ d x a c, [d0, d1, d2][k.toNat]? = some d ∧ [x0, x1, x2][k.toNat]? = some x ∧ [c0, c1, c2][k.toNat]? = some c ∧ ID w g d c ∧ ID w g a c ∧ CD g x a ∧ Good c := by
  have : k = 0 ∨ k = 1 ∨ k = 2 := by omega
  rcases this with rfl | rfl | rfl
  · exact ⟨d0, x0, a0, c0, rfl, rfl, rfl, S.i0, S.j0, S.y0, S.gd0⟩
  · exact ⟨d1, x1, a1, c1, rfl, rfl, rfl, S.i1, S.j1, S.y1, S.gd1⟩
  · exact ⟨d2, x2, a2, c2, rfl, rfl, rfl, S.i2, S.j2, S.y2, S.gd2⟩
/-- how a statement of law ends -/
def SegEnd (base g : Heap) (L : Addr) (s : Shared) (MP : Heap → (Str → Option Value) → Prop) (f : Flow) (s' : Shared) : Prop :=
  f = .next ∧ ∃ g' m' h' tk ok', s' = { s with heap := h', toks := tk } ∧ Fm base g' L m' [(L + 1 + 1 + 1, ok')] h' ∧ Le g g' ∧ (∃ v, ok'.data = .cell v) ∧ MP g' m'
theorem SegEnd.mk' {base g g' h' : Heap} {s : Shared} {tk : Nat} {m' : Str → Option Value} {ok' : Obj} {MP : Heap → (Str → Option Value) → Prop} {v : Option Value} (F : Fm base g' L m' [(L + 1 + 1 + 1, ok')] h') (l : Le g g') (hv : ok'.data = .cell v) (h : MP g' m') :
    SegEnd base g L s MP .next { s with heap := h', toks := tk } := ⟨rfl, g', m', h', tk, ok', rfl, F, l, ⟨v, hv⟩, h⟩
end
end
section
open PySem PySem.W PyProof.Rows PySem.Calls
set_option maxRecDepth 100000
set_option maxHeartbeats 1000000
section
variable {w : World} {A : Around} {E : Value → Shared → Prop} {s : Shared} {base g : Heap} {m : Str → Option Value} {V : List (Addr × Obj)} {env : Env} {l1 l2 : Addr} {xs ys : Array Value}
theorem zip_get {h : Heap} {L : Addr} {F4 : List (Addr × Obj)} {hk : Heap} {wr : List Addr} (F : Fm base g L m (F4 ++ V) h) (hw : ∀ b ∈ wr, b ∈ F4.map (·.1)) (hw' : ∀ b ∈ F4.map (·.1), b ∈ wr) (k : ∀ b o, b ∉ wr → h.get? b = some o → hk.get? b = some o) {G4 : List (Addr × Obj)} (e : G4.map (·.1) = F4.map (·.1)) (hv : ∀ p ∈ G4, hk.get? p.1 = some p.2) :
    Fm base g L m (G4 ++ V) hk := by
  have nd := F.nd
  rw [List.map_append, List.nodup_cons, List.mem_append, not_or, List.nodup_append] at nd
  have up : Le g hk := fun b o q => k b o (fun hb => by
    obtain ⟨p, hp, rfl⟩ := List.mem_map.mp (hw b hb)
    rw [F.off p (List.mem_append_left _ hp)] at q; cases q) (F.le _ _ q)
  refine { F := ⟨F.F.ns.at' fun o q => k _ o (fun hb => nd.1.1 (hw _ hb)) q, Le.trans' F.leb up, F.F.above⟩, le := up, leb := F.leb, offL := F.offL, vol := ?_, off := ?_, nd := ?_ }
  · intro p hp
    rcases List.mem_append.mp hp with q | q
    · exact hv p q
    · exact k _ _ (fun hb => nd.2.2.2 _ (hw _ hb) _ (List.mem_map_of_mem q) rfl) (F.vol p (List.mem_append_right _ q))
  · intro p hp
    rcases List.mem_append.mp hp with q | q
    · have : p.1 ∈ F4.map (·.1) := e ▸ List.mem_map_of_mem q
      obtain ⟨r, hr, er⟩ := List.mem_map.mp this
      rw [← er]; exact F.off r (List.mem_append_left _ hr)
    · exact F.off p (List.mem_append_right _ q)
  · rw [List.map_append, e, ← List.map_append]; exact F.nd
theorem zip_drop {h : Heap} {L : Addr} {F4 : List (Addr × Obj)} {hk : Heap} {wr : List Addr} (F : Fm base g L m (F4 ++ V) h) (hw : ∀ b ∈ wr, b ∈ F4.map (·.1)) (k : ∀ b o, b ∉ wr → h.get? b = some o → hk.get? b = some o) : Fm base g L m V hk := by
  have nd := F.nd
  rw [List.map_append, List.nodup_cons, List.mem_append, not_or, List.nodup_append] at nd
  have up : Le g hk := fun b o q => k b o (fun hb => by
    obtain ⟨p, hp, rfl⟩ := List.mem_map.mp (hw b hb)
    rw [F.off p (List.mem_append_left _ hp)] at q; cases q) (F.le _ _ q)
  have D := F.drops
  exact { F := ⟨F.F.ns.at' fun o q => k _ o (fun hb => nd.1.1 (hw _ hb)) q, Le.trans' F.leb up, F.F.above⟩, le := up, leb := F.leb, offL := F.offL,
          vol := fun p hp => k _ _ (fun hb => nd.2.2.2 _ (hw _ hb) _ (List.mem_map_of_mem hp) rfl) (F.vol p (List.mem_append_right _ hp)), off := D.off, nd := D.nd }
def ZTurn (base g1 : Heap) (L : Addr) (W : List (Addr × Obj)) (s : Shared) (J : Heap → (Str → Option Value) → List (Addr × Obj) → Prop) (f : Flow) (s' : Shared) : Prop := match f with
  | .brk => False
  | .ret _ => False
  | _ => ∃ g2 m2 V2 h2 tk2, s' = { s with heap := h2, toks := tk2 } ∧ Fm base g2 L m2 (W ++ V2) h2 ∧ Le g1 g2 ∧ J g2 m2 V2
theorem ZTurn.mk' {g1 g2 h2 : Heap} {L : Addr} {W V2 : List (Addr × Obj)} {J : Heap → (Str → Option Value) → List (Addr × Obj) → Prop} {m2 : Str → Option Value} {tk2 : Nat} (F : Fm base g2 L m2 (W ++ V2) h2) (l : Le g1 g2) (j : J g2 m2 V2) :
    ZTurn base g1 L W s J .next { s with heap := h2, toks := tk2 } := ⟨g2, m2, V2, h2, tk2, rfl, F, l, j⟩
/-- `for a, b in zip(l1, l2)` -/
theorem zip_loop {elts : List PySem.Expr} {ek : Nat} {ep : Pos} {body : List Stmt} {R : Result → Shared → Prop} (hh : A.handled = none) (hl1 : g.IsList l1 xs) (hl2 : g.IsList l2 ys) (F : Fm base g env.locals m V s.heap)
    (J : Nat → Heap → (Str → Option Value) → List (Addr × Obj) → Prop) (h0 : ∀ g', Le g g' → J 0 g' m V) (hJk : ∀ i g1 g2 m1 V1, J i g1 m1 V1 → Le g1 g2 → J i g2 m1 V1)
    (turn : ∀ i x y T g1 m1 V1 W h tk, xs[i]? = some x → ys[i]? = some y → Le g g1 → J i g1 m1 V1 → g1.IsTuple T #[x, y] → Fm base g1 env.locals m1 (W ++ V1) h →
      wpAny (model pg w) A (assign (.Tuple elts ek ep) env (.ref T)) (fun _ s₂ => wpAny (model pg w) A (execs body env) (ZTurn base g1 env.locals W s (J (i + 1))) (fun _ _ => False) s₂) (fun _ _ => False) { s with heap := h, toks := tk })
    (done : ∀ g1 m1 V1 h tk, Le g g1 → J (min xs.size ys.size) g1 m1 V1 → Fm base g1 env.locals m1 V1 h → R (.ok .next) { s with heap := h, toks := tk }) :
    wpAny (model pg w) A (call (.type "zip") [.ref l1, .ref l2]) (fun xv s₀ => wpAny (model pg w) A (pyIter xv) (fun it s₂ => codeAny (model pg w) A (.forLoop (.Tuple elts ek ep) it body [] env) R s₂) E s₀) E s := by
  have up : ∀ {l : Addr} {zs : Array Value}, g.IsList l zs → s.heap.IsList l zs := fun ⟨o, e, r⟩ => ⟨o, F.le _ _ e, r⟩
  refine call_zip_2 (up hl1) (up hl2) fun h' hz hTI hTO hi1 hi2 hsz hk => ?_
  have Fg := F.grow hk
  have old : ∀ a, s.heap.objs.size ≤ a → g.get? a = none ∧ env.locals ≠ a ∧ ∀ p ∈ V, p.1 ≠ a := fun a ha =>
    ⟨by cases e : g.get? a with | none => rfl | some o => exact absurd (Heap.lt_size (F.le _ _ e)) (Nat.not_lt_of_le ha), Nat.ne_of_lt (Nat.lt_of_lt_of_le F.lt ha), fun p hp => Nat.ne_of_lt (Nat.lt_of_lt_of_le (Heap.lt_size (F.vol p hp)) ha)⟩
  have lt1 : ∀ {l : Addr} {zs : Array Value}, g.IsList l zs → l < s.heap.objs.size := fun ⟨o, e, _⟩ => Heap.lt_size (F.le _ _ e)
  have ll1 := lt1 hl1
  have ll2 := lt1 hl2
  generalize hN : s.heap.objs.size = N at *
  have y0 := old N (Nat.le_refl _)
  have y1 := old (N + 1) (Nat.le_add_right _ _)
  have y2 := old (N + 2) (Nat.le_add_right _ _)
  have y3 := old (N + 3) (Nat.le_add_right _ _)
  have y4 := old (N + 4) (Nat.le_add_right _ _)
  have na : ∀ a b : Nat, a ≠ b → N + a ≠ N + b := fun a b h e => h (Nat.add_left_cancel e)
  obtain ⟨o1, e1, q1⟩ := id hi1
  obtain ⟨o2, e2, q2⟩ := id hi2
  have FA := Fg.addOld e2 y1.1 y1.2.1 y1.2.2
  have FB := FA.addOld e1 y0.1 y0.2.1 (fun p hp => by
    rcases List.mem_cons.mp hp with rfl | hp
    · exact Nat.succ_ne_self N
    · exact y0.2.2 p hp)
  have FC := FB.addOld hTO y3.1 y3.2.1 (fun p hp => by
    rcases List.mem_cons.mp hp with rfl | hp
    · exact na 0 3 (by decide)
    · rcases List.mem_cons.mp hp with rfl | hp
      · exact na 1 3 (by decide)
      · exact y3.2.2 p hp)
  have FD := FC.addOld hz y4.1 y4.2.1 (fun p hp => by
    rcases List.mem_cons.mp hp with rfl | hp
    · exact na 3 4 (by decide)
    · rcases List.mem_cons.mp hp with rfl | hp
      · exact na 0 4 (by decide)
      · rcases List.mem_cons.mp hp with rfl | hp
        · exact na 1 4 (by decide)
        · exact y4.2.2 p hp)
  obtain ⟨g', FE, lE, nE⟩ := FD.freeze
  have hTIg : g'.get? (N + 2) = some _ := nE _ _ hTI (Ne.symm y2.2.1) (fun p hp => by
    rcases List.mem_cons.mp hp with rfl | hp
    · exact na 4 2 (by decide)
    · rcases List.mem_cons.mp hp with rfl | hp
      · exact na 3 2 (by decide)
      · rcases List.mem_cons.mp hp with rfl | hp
        · exact na 0 2 (by decide)
        · rcases List.mem_cons.mp hp with rfl | hp
          · exact na 1 2 (by decide)
          · exact y2.2.2 p hp)
  have ne : ∀ (a b : Nat), a ≠ b → (show Addr from a) ≠ b := fun _ _ h => h
  have D : ZipApart (N + 4) (N + 2) (N + 3) N (N + 1) l1 l2 := by constructor <;> exact ne _ _ (by first | omega | exact Nat.ne_of_lt ll1 | exact Nat.ne_of_lt ll2 | exact Nat.ne_of_lt (Nat.lt_of_lt_of_le ll1 (Nat.le_add_right _ _)) | exact Nat.ne_of_lt (Nat.lt_of_lt_of_le ll2 (Nat.le_add_right _ _)))
  have W := WalksT.zip2 (prog := pg) (w := w) hh (N + 4) (N + 2) (N + 3) N (N + 1) l1 l2 D xs ys
  refine wpAny_pyIter_zip hz ?_
  have fpg : ∀ b ∈ [N + 4, N + 2, N + 3, N, N + 1, l1, l2], (b = N + 4 ∨ b = N + 3 ∨ b = N ∨ b = N + 1) ∨ ∃ o, g'.get? b = some o := by
    obtain ⟨p1, p2, _⟩ := hl1
    obtain ⟨p3, p4, _⟩ := hl2
    intro b hb
    simp only [List.mem_cons, List.not_mem_nil, or_false] at hb
    rcases hb with rfl | rfl | rfl | rfl | rfl | rfl | rfl
    · exact .inl (.inl rfl)
    · exact .inr ⟨_, hTIg⟩
    · exact .inl (.inr (.inl rfl))
    · exact .inl (.inr (.inr (.inl rfl)))
    · exact .inl (.inr (.inr (.inr rfl)))
    · exact .inr ⟨_, lE _ _ p2⟩
    · exact .inr ⟨_, lE _ _ p4⟩
  refine codeAny_forLoop_any
    (fun k s' => ∃ h tk i g1 m1 V1 oz oT oa ob, s' = { s with heap := h, toks := tk } ∧ (IsZip h (N + 4) (N + 2) (N + 3) .none ∧ IsPair h (N + 2) (.ref N) (.ref (N + 1)) ∧ (∃ a b, IsPair h (N + 3) a b) ∧ h.IsListIter N l1 i ∧ h.IsListIter (N + 1) l2 i ∧ h.IsList l1 xs ∧ h.IsList l2 ys) ∧ Le g' g1 ∧
      Fm base g1 env.locals m1 ([(N + 4, oz), (N + 3, oT), (N, oa), (N + 1, ob)] ++ V1) h ∧ J i g1 m1 V1 ∧ i ≤ min xs.size ys.size ∧ k = min xs.size ys.size + 1 - i) ?_ (min xs.size ys.size + 1)
    ⟨h', s.toks, 0, g', m, V, _, _, _, _, rfl, ⟨hz, hTI, ⟨_, _, hTO⟩, hi1, hi2, let ⟨o, e, r⟩ := hl1; ⟨o, hk _ _ (F.le _ _ e), r⟩, let ⟨o, e, r⟩ := hl2; ⟨o, hk _ _ (F.le _ _ e), r⟩⟩, Le.rfl', FE, h0 g' lE, Nat.zero_le _, rfl⟩
  rintro k s' ⟨h, tk, i, g1, m1, V1, oz, oT, oa, ob, rfl, st, le, F1, hJ, hi, rfl⟩
  have wr4 : ∀ (a b c d : Obj), ∀ x ∈ [N + 4, N + 3, N, N + 1], x ∈ ([(N + 4, a), (N + 3, b), (N, c), (N + 1, d)] : List (Addr × Obj)).map (·.1) := fun _ _ _ _ x hx => hx
  by_cases hlt : i < min xs.size ys.size
  · refine W.item i _ _ _ hlt st fun T vals h₁ tk₁ hP hTge hT st₁ hk₁ => ?_
    obtain ⟨x, y, ex, ey, rfl⟩ := hP
    dsimp only
    have apT := W.apart _ _ _ st₁
    refine W.go _ _ _ i T _ _ _ st₁ fun h₂ st₂ hk₂ => ?_
    have k12 : ∀ b o, b ∉ [N + 4, N + 3, N, N + 1] → h.get? b = some o → h₂.get? b = some o := fun b o hb e => hk₂ b o hb (hk₁ b o hb e)
    obtain ⟨z1, z2, ⟨ta, tb, z3⟩, ⟨oi1, z4, z4'⟩, ⟨oi2, z5, z5'⟩, z6, z7⟩ := id st₂
    obtain ⟨zo, hzo⟩ : ∃ o, h₂.get? (N + 4) = some o := ⟨_, z1⟩
    obtain ⟨to, hto⟩ : ∃ o, h₂.get? (N + 3) = some o := ⟨_, z3⟩
    have F2 : Fm base g1 env.locals m1 ([(N + 4, zo), (N + 3, to), (N, oi1), (N + 1, oi2)] ++ V1) h₂ := zip_get (wr := [N + 4, N + 3, N, N + 1]) F1 (wr4 _ _ _ _) (fun b hb => hb) k12 rfl (by
      intro p hp
      simp only [List.mem_cons, List.not_mem_nil, or_false] at hp
      rcases hp with rfl | rfl | rfl | rfl
      · exact hzo
      · exact hto
      · exact z4
      · exact z5)
    obtain ⟨g2, F3, l3, n3⟩ := F2.freeze
    have hT2 : g2.IsTuple T #[x, y] := by
      obtain ⟨oT', eT, rT⟩ := hT
      refine ⟨oT', n3 T oT' (hk₂ _ _ apT eT) ?_ ?_, rT⟩
      · exact Ne.symm (Nat.ne_of_lt (Nat.lt_of_lt_of_le F1.lt hTge))
      · intro p hp
        rcases List.mem_append.mp hp with q | q
        · intro e
          apply apT
          rw [← e]
          have : p.1 ∈ ([(N + 4, zo), (N + 3, to), (N, oi1), (N + 1, oi2)] : List (Addr × Obj)).map (·.1) := List.mem_map_of_mem q
          exact this
        · exact Nat.ne_of_lt (Nat.lt_of_lt_of_le (Heap.lt_size (F1.vol p (List.mem_append_right _ q))) hTge)
    have jj : J i g2 m1 V1 := hJk i g1 g2 m1 V1 hJ l3
    refine wpAny_mono (turn i x y T g2 m1 V1 _ h₂ tk₁ ex ey (Le.trans' lE (Le.trans' le l3)) jj hT2 F3) (fun _ s₂ h₃ => wpAny_mono h₃ (fun f s₃ h₄ => ?_) fun _ _ e => e.elim) fun _ _ e => e.elim
    have fin : (∃ g3 m2 V2 h2 tk2, s₃ = { s with heap := h2, toks := tk2 } ∧ Fm base g3 env.locals m2 ([(N + 4, zo), (N + 3, to), (N, oi1), (N + 1, oi2)] ++ V2) h2 ∧ Le g2 g3 ∧ J (i + 1) g3 m2 V2) →
        ∃ k, k < min xs.size ys.size + 1 - i ∧ ∃ h tk j g1 m1 V1 oz oT oa ob, s₃ = { s with heap := h, toks := tk } ∧ (IsZip h (N + 4) (N + 2) (N + 3) .none ∧ IsPair h (N + 2) (.ref N) (.ref (N + 1)) ∧ (∃ a b, IsPair h (N + 3) a b) ∧ h.IsListIter N l1 j ∧ h.IsListIter (N + 1) l2 j ∧ h.IsList l1 xs ∧ h.IsList l2 ys) ∧ Le g' g1 ∧
      Fm base g1 env.locals m1 ([(N + 4, oz), (N + 3, oT), (N, oa), (N + 1, ob)] ++ V1) h ∧ J j g1 m1 V1 ∧ j ≤ min xs.size ys.size ∧ k = min xs.size ys.size + 1 - j := by
      rintro ⟨g3, m2, V2, h2, tk2, rfl, F4, l4, hJ₂⟩
      refine ⟨min xs.size ys.size + 1 - (i + 1), by omega, h2, tk2, i + 1, g3, m2, V2, zo, to, oi1, oi2, rfl, ?_, Le.trans' le (Le.trans' l3 l4), F4, hJ₂, hlt, rfl⟩
      refine W.frame _ _ _ st₂ fun b hb o e => ?_
      rcases fpg b hb with q | ⟨o', q⟩
      · have hv2 : ∀ p ∈ ([(N + 4, zo), (N + 3, to), (N, oi1), (N + 1, oi2)] : List (Addr × Obj)), h2.get? p.1 = h₂.get? p.1 := fun p hp => (F4.vol p (List.mem_append_left _ hp)).trans (F3.vol p (List.mem_append_left _ hp)).symm
        rcases q with q | q | q | q <;> rw [q] at e ⊢
        · exact (hv2 (N + 4, zo) (by simp)).trans e
        · exact (hv2 (N + 3, to) (by simp)).trans e
        · exact (hv2 (N, oi1) (by simp)).trans e
        · exact (hv2 (N + 1, oi2) (by simp)).trans e
      · have a1 := F3.le _ _ (l3 _ _ (le _ _ q))
        rw [a1] at e; cases e
        exact F4.le _ _ (l4 _ _ (l3 _ _ (le _ _ q)))
    cases f with
    | ret v => exact h₄.elim
    | brk => exact h₄.elim
    | next => exact fin h₄
    | cont => exact fin h₄
  · obtain rfl : i = min xs.size ys.size := by omega
    refine W.done _ _ _ st fun h₁ tk₁ hk₁ => ?_
    refine wpAny_execs_nil ?_
    exact done g1 m1 V1 h₁ tk₁ (Le.trans' lE le) hJ (zip_drop (wr := [N + 4, N + 3, N, N + 1]) F1 (wr4 _ _ _ _) hk₁)
end
end
section
open PySem PySem.W PyProof.Rows PySem.Calls
set_option maxRecDepth 100000
set_option maxHeartbeats 8000000
local macro_rules | `(tactic| walk_at "pad") => `(tactic| skip)
local macro_rules | `(tactic| walk_at "pad") => `(tactic| skip)
local macro_rules | `(tactic| walk_at "pad") => `(tactic| skip)
local macro_rules | `(tactic| walk_at "pad") => `(tactic| skip)
local macro_rules | `(tactic| walk_at "pad") => `(tactic| skip)
local macro_rules | `(tactic| walk_at "pad") => `(tactic| skip)
section
variable {w : World} {A : Around} {s : Shared} {base g : Heap} {L fa : Addr} {cd : Value} {m mg mb : Str → Option Value} {ld ldf d0 d1 d2 x0 x1 x2 a0 a1 a2 xn dn : Addr} {c0 c1 c2 : List (Int × Int)} {ok : Obj} {kv : Option Value}
local macro_rules | `(tactic| walk_at "getMethod ref") => `(tactic| ((with_reducible show wpAny _ _ (getMethod (Value.ref _) (PySem.Str.ofString "told") _) _ _ _); refine meth_told (by assumption) (by assumption) (CD.keeps (by assumption) (by walk_at "leg")) ?_))
local macro_rules | `(tactic| walk_at "getMethod ref") => `(tactic| ((with_reducible show wpAny _ _ (getMethod (Value.ref _) (PySem.Str.ofString "count") _) _ _ _); refine meth_count (by assumption) (by assumption) (CD.keeps (by assumption) (by walk_at "leg")) ?_))
local macro_rules | `(tactic| walk_at "subscriptTail") => `(tactic| ((with_reducible show wpAny _ _ (subscriptTail _ _ (Value.ref _) (Value.int _ _)) _ _ _); refine fm_item (vs := [_, _, _]) (by assumption) (by walk_at "le") (by assumption) (by omega) (by assumption) ?_))
theorem segA (P : Params) (hP : w.params = P) : ∃ fd st, Nth P 4 fd st ∧ ∀ (D : Md w base mg mb) (F : Fm base g L m [(L + 1 + 1 + 1, ok)] s.heap) (hok : ok.data = .cell kv) (R : Room A 30) (S : LawSt w g L ld ldf d0 d1 d2 x0 x1 x2 a0 a1 a2 xn dn c0 c1 c2)
    (md : m "defs" = some (.ref ldf)) (mn : m "nobody" = some (.ref xn)),
    wpAny (model pg w) A (exec st (lenv fd L fa cd)) (SegEnd base g L s fun g' m' => m' "defs" = some (.ref ldf) ∧ m' "nobody" = some (.ref xn)) (fun _ _ => False) s := by
  subst hP
  refine ⟨_, _, ⟨_, _, _, _, rfl, rfl, rfl⟩, ?_⟩
  intro D F hok R S md mn
  refine wpAny_For ?_
  iterate 26 walk1
  rename_i g1 h1 T1 F1 l1 r1 g2 h2 T2 F2 l2 r2 g3 h3 T3 F3 l3 r3
  refine fm_list F3 ?_
  intro g4 h4 TL F4 l4 hTL
  have RLT : RL g4 TL [.t [0, 1], .t [1, 2], .t [2, 0]] := ⟨_, hTL, RA.cons (r1.keeps (Le.trans' l2 (Le.trans' l3 l4))) (RA.cons (r2.keeps (Le.trans' l3 l4)) (RA.cons (r3.keeps l4) .nil))⟩
  have l14 := Le.trans' l1 (Le.trans' l2 (Le.trans' l3 l4))
  replace S := S.keeps l14
  clear F1 F2 F3
  refine pyIter_loop (Src.rl (Room.handled (n := 0) (by walk_at "room")) RLT) F4 (fun i g1 m1 V1 => V1 = [(L + 1 + 1 + 1, ok)] ∧ m1 "defs" = some (.ref ldf) ∧ m1 "nobody" = some (.ref xn)) ⟨rfl, md, mn⟩ ?_ ?_
  · rintro i v g5 m5 V1 I oI h tk hi ⟨dv, e, rd⟩ le ⟨rfl, md5, mn5⟩ F5
    obtain ⟨p, q, rfl, p0, p1, q0, q1⟩ : ∃ p q : Int, dv = .t [p, q] ∧ 0 ≤ p ∧ p < 3 ∧ 0 ≤ q ∧ q < 3 := by
      have : i = 0 ∨ i = 1 ∨ i = 2 := by simp at hi; omega
      rcases this with rfl | rfl | rfl <;> (simp at e; subst e; exact ⟨_, _, rfl, by omega, by omega, by omega, by omega⟩)
    obtain ⟨T, vs, rfl, hT, hI⟩ := rd.tup_inv
    obtain ⟨t, u, rfl⟩ := pair_vals hI
    have S5 := S.keeps le
    have hl1 : g5.IsList ldf [Value.ref x0, .ref x1, .ref x2].toArray := ⟨_, S5.xl, rfl, _, rfl⟩
    have hl2 : g5.IsList ld [Value.ref d0, .ref d1, .ref d2].toArray := ⟨_, S5.dl, rfl, _, rfl⟩
    have hcell := S5.cell
    obtain ⟨dp, xp, ap, cp, e1, e2, e3, i1, j1, y1, gp⟩ := S5.nth p0 p1
    obtain ⟨dq, xq, aq, cq, e1', e2', e3', i1', j1', y1', gq⟩ := S5.nth q0 q1
    have v1 := vmap e1
    have v2 := vmap e2
    have v3 := vmap e1'
    have v4 := vmap e2'
    simp only [List.map_cons, List.map_nil] at v1 v2 v3 v4
    refine fm_assign2 (Room.handled (n := 0) (by walk_at "room")) F5 (⟨_, le _ _ hT.choose_spec.1, hT.choose_spec.2⟩ : g5.IsTuple T #[Value.int p t, .int q u]) ?_
    intro h6 F6
    clear F5
    iterate 33 walk1
    refine both_spec (both_facts gp gq i1.nodup i1'.nodup) (by assumption) (by assumption) (by walk_at "room") y1 j1 y1' j1' i1 i1' gp.keys gq.keys ?_
    intro g7 h7 tk7 F7 l7
    have y7 := y1.keeps l7
    have y7' := y1'.keeps l7
    have j7 := j1.keeps l7
    have j7' := j1'.keeps l7
    replace hl1 := islist_keeps hl1 l7
    clear F6
    iterate 20 walk1
    refine common_spec (by assumption) (by assumption) (by walk_at "room") y7 j7 y7' j7' gp.keys gq.keys ?_
    intro g8 h8 tk8 TA xA aA lA F8 l8 hTA yA jA rA
    refine fm_assign2 (Room.handled (n := 0) (by walk_at "room")) F8 hTA ?_
    intro h9 F9
    replace y7 := y7.keeps l8
    replace y7' := y7'.keeps l8
    replace j7 := j7.keeps l8
    replace j7' := j7'.keeps l8
    replace hl1 := islist_keeps hl1 l8
    clear F7 F8
    iterate 21 walk1
    refine common_spec (by assumption) (by assumption) (by walk_at "room") y7' j7' y7 j7 gq.keys gp.keys ?_
    intro g10 h10 tk10 TB xB aB lB F10 l10 hTB yB jB rB
    refine fm_assign2 (Room.handled (n := 0) (by walk_at "room")) F10 hTB ?_
    intro h11 F11
    replace yA := yA.keeps l10
    replace jA := jA.keeps l10
    replace rA := rA.keeps l10
    clear F10 F9
    iterate 12 walk1
    refine told_spec (by assumption) (by assumption) (by walk_at "room") yA jA (jn_keys _ _) ?_
    intro g12 h12 tk12 TT F12 l12 hRT1
    replace yB := yB.keeps l12
    replace jB := jB.keeps l12
    iterate 4 walk1
    refine told_spec (by assumption) F12 (by walk_at "room") yB jB (jn_keys _ _) ?_
    intro g13 h13 tk13 TT2 F13 l13 hRT2
    clear F12 F11
    skip
    refine ne_rt (by walk_at "room") (hRT1.keeps l13) hRT2 F13.le ?_
    have hte : toldD (jn cp cq).2 = toldD (jn cq cp).2 := by rw [jn_turn cp cq]
    rw [decide_eq_true hte]
    replace rA := rA.keeps (Le.trans' l12 l13)
    replace rB := rB.keeps (Le.trans' l12 l13)
    iterate 4 walk1
    refine ListComp_ ?_
    iterate 1 walk1
    refine pyIter_comp (Src.rl (Room.handled (n := 0) (by walk_at "room")) rA) F13 (by rw [sizeLine_eq, List.length_map]; have := (both_facts gp gq i1.nodup i1'.nodup).len; omega) (fun i g3 ys V1 => V1 = (I, oI) :: [(L + 1 + 1 + 1, ok)] ∧ RA g3 ys (((jn cp cq).1.map fun q => Dv.t q.reverse).take i)) ⟨rfl, RA.nil⟩ ?_ ?_
    · rintro j v g14 ys V1 I2 oI2 C D2 oL h tk m₂ hj ⟨dv, e, rv⟩ le14 ⟨rfl, hy⟩ q hxn hl F14
      rw [List.getElem?_map] at e
      obtain ⟨k, e4, rfl⟩ := Option.map_eq_some_iff.mp e
      obtain ⟨ka, kb, rfl⟩ := jn_pair cp cq k (List.mem_of_getElem? e4)
      refine no_ifs ?_
      rw [if_pos rfl]
      iterate 5 walk1
      refine fm_item0 (rv.keeps le14) (by walk_at "le") (by omega) (by simp) (x := kb) rfl ?_
      intro t1
      iterate 4 walk1
      refine fm_item0 (rv.keeps le14) (by walk_at "le") (by omega) (by simp) (x := ka) rfl ?_
      intro t2
      iterate 2 walk1
      refine CEnd.mk' (by assumption) (by assumption) ⟨rfl, hy.snocK (by assumption) ?_ (by assumption)⟩
      rw [List.getElem?_map, e4]; rfl
    · rintro g14 ys V1 C D2 oL h tk m₂ le14 ⟨rfl, hy⟩ q F14
      refine comp_done F13 q F14 fun g15 h15 l15 F15 hL15 => ?_
      have hR1 : RL g15 D2 ((jn cp cq).1.map fun q => Dv.t q.reverse) := ⟨ys, hL15, by
        have := hy.keeps l15
        rwa [List.take_of_length_le (by simp)] at this⟩
      replace rB := rB.keeps (Le.trans' le14 l15)
      clear F14 F13
      iterate 1 walk1
      refine ne_rl (by walk_at "room") hR1 rB F15.le ?_
      have hrev : ((jn cp cq).1.map fun q => Dv.t q.reverse) = (jn cq cp).1.map Dv.t := by rw [jn_turn cp cq, List.map_map]; rfl
      rw [decide_eq_true hrev]
      iterate 6 walk1
      refine Turn.next [] F15 (Le.trans' l7 (Le.trans' l8 (Le.trans' l10 (Le.trans' l12 (Le.trans' l13 (Le.trans' le14 l15)))))) ?_
      exact ⟨rfl, md5, mn5⟩
  · rintro g5 m5 V1 h tk le ⟨rfl, md5, mn5⟩ F5
    exact SegEnd.mk' F5 (Le.trans' l14 le) hok ⟨md5, mn5⟩
end
end
section
open PySem PySem.W PyProof.Rows PySem.Calls PyProof.Rows.LCg
set_option maxRecDepth 100000
/-- a comprehension's frame where cells are laid -/
def cEnv (scope : Scope) (cs : List (Str × Addr)) (C : Addr) (env : Env) : Env := compEnvC scope cs C env
theorem newEnv_one {M : Model} {A : Around} {E : Value → Shared → Prop} {s : Shared} {scope : Scope} {cl : List (Str × Addr)} {env : Env} {Q : Env → Shared → Prop} {x : Str}
    (hc : cellsFrom (s.heap.objs.size + 1) scope.names cl = (x, s.heap.objs.size + 1) :: cl)
    (hp : pushCells (s.heap.push { cls := .type "dict", data := .dict #[] }) scope.names = (s.heap.push { cls := .type "dict", data := .dict #[] }).push { cls := .type "cell", data := .cell none })
    (hQ : Q (newEnv scope s.heap.objs.size env.globals ((x, s.heap.objs.size + 1) :: cl) env.qual none .none (some env) builtinsNs) { s with heap := (s.heap.push { cls := .type "dict", data := .dict #[] }).push { cls := .type "cell", data := .cell none } }) :
    wpAny M A (newFunctionEnv scope env.globals cl [] env.qual none .none (some env)) Q E s := by
  simp only [newFunctionEnv, Option.isSome_some, if_true]
  refine wpAny_bind (wpAny_alloc ?_)
  refine wpAny_bind (wpAny_layCells _ (fun name kind cells => by cases hkc : kind == NameKind.cell <;> simp [hkc]) _ _ _ _ ?_)
  rw [show ({ s with heap := s.heap.push { cls := .type "dict", data := .dict #[] } } : Shared).heap.objs.size = s.heap.objs.size + 1 from Heap.size_push ..]
  rw [hc]
  show wpAny _ _ _ _ _ { s with heap := pushCells (s.heap.push { cls := .type "dict", data := .dict #[] }) scope.names }
  rw [hp]
  refine wpAny_bind ?_
  rw [List.forIn_nil]
  exact wpAny_pure (wpAny_pure hQ)
section
variable {prog : Program} {w : World} {A : Around} {E : Value → Shared → Prop} {s : Shared} {base g : Heap} {m : Str → Option Value} {V : List (Addr × Obj)} {env : Env}
  {I : Addr} {fp : List Addr} {n : Nat} {P : Nat → Value → Prop} {St : Nat → Heap → Prop}

open PyProof.Rows.LCg in
theorem comp_blockC {elt iter : Expr} {x : Str} {px : Pos} {ifs : List Expr} {scope : Scope} {cl : List (Str × Addr)} {pos : Pos} {s₂ : Shared} {oI : Obj} {RR : Value → Addr → Result → Shared → Prop}
    (W : Walks prog w A I fp [I] n P St) (hsz : n ≤ sizeLine) (hIo : ∀ i h, St i h → ∃ o, h.get? I = some o) (hst : St 0 s₂.heap)
    (F : Fm base g env.locals m ((I, oI) :: V) s₂.heap) (hfp : ∀ b ∈ fp, b = I ∨ ∃ o, g.get? b = some o)
    (hcf : ∀ n, cellsFrom (n + 1) scope.names cl = (x, n + 1) :: cl) (hpc : ∀ h : Heap, pushCells h scope.names = h.push { cls := .type "cell", data := .cell none }) (hkind : scope.kind = .function) (hx : ∀ cs C, (compEnvC scope cs C env).kindOf x = some .cell)
    (J : Nat → Heap → List Value → List (Addr × Obj) → Prop) (h0 : J 0 g [] V)
    (turn : ∀ i v g1 ys V1 oI C D oL oc h tk m₂, i < n → P i v → Le g g1 → J i g1 ys V1 → NsObj oL m → oc.data = .cell (some v) → ys.length ≤ i →
      Fm base g1 C m₂ ((env.locals, oL) :: (I, oI) :: (D, lst ys) :: (C + 1, oc) :: V1) h →
      wpAny (model prog w) A (forIn ifs true fun c r => if r = true then do let ok ← isTrue c (compEnvC scope ((x, C + 1) :: cl) C env) (eval c (compEnvC scope ((x, C + 1) :: cl) C env)); pure (ForInStep.yield ok) else pure (ForInStep.yield r))
        (fun ok s₃ => if ok = true then wpAny (model prog w) A (eval elt (compEnvC scope ((x, C + 1) :: cl) C env)) (fun y => CEnd base g1 C [(env.locals, oL), (I, oI), (D, lst ys), (C + 1, oc)] s₂ (fun g2 V2 => J (i + 1) g2 (ys ++ [y]) V2)) (fun _ _ => False) s₃
          else CEnd base g1 C [(env.locals, oL), (I, oI), (D, lst ys), (C + 1, oc)] s₂ (fun g2 V2 => J (i + 1) g2 ys V2) s₃) (fun _ _ => False) { s₂ with heap := h, toks := tk })
    (done : ∀ g1 ys V1 C D oL oc h tk m₂, Le g g1 → J n g1 ys V1 → NsObj oL m → Fm base g1 C m₂ ((env.locals, oL) :: (D, lst ys) :: (C + 1, oc) :: V1) h → RR (.ref D) C (.ok .next) { s₂ with heap := h, toks := tk }) :
    wpAny (model prog w) A (newList []) (fun acc s₃ => wpAny (model prog w) A (newFunctionEnv scope env.globals cl [] env.qual none .none (some env)) (fun cenv s₄ =>
      codeAny (model prog w) A (.compStart (.ListComp elt [⟨.Name x px, iter, ifs, 0⟩] scope pos) 0 (.ref I) acc { cenv with scope := relabel scope env }) (RR acc cenv.locals) s₄) E s₃) E s₂ := by
  refine wpAny_newObj_type (newEnv_one (x := x) (hcf _) (hpc _) ?_)
  dsimp only
  have FD := F.allocV (lst []) rfl
  have eD : s₂.heap.push { cls := .type "list", dict := none, data := .seq ([] : List Value).toArray } = s₂.heap.push (lst []) := rfl
  rw [eD]
  generalize s₂.heap.objs.size = Dd at FD ⊢
  generalize hH : s₂.heap.push (lst []) = H2 at FD ⊢
  have old1 : Le H2 (H2.push { cls := .type "dict", data := .dict #[] }) := fun b o e => Heap.get?_push_of_some _ e
  have hns₁ : (H2.push { cls := .type "dict", data := .dict #[] }).Ns H2.objs.size (fun x => ([] : List (Str × Value)).reverse.lookup x) := Heap.Ns.new ..
  obtain ⟨oL, q, FC⟩ := FD.under old1 hns₁ (Nat.le_refl _)
  have FC2 := FC.allocV { cls := .type "cell", data := .cell none } rfl
  rw [Heap.size_push] at FC2
  generalize hH1 : (H2.push { cls := .type "dict", data := .dict #[] }).push { cls := .type "cell", data := .cell none } = h₁ at FC2 ⊢
  have up : Le s₂.heap h₁ := fun b o e => by
    rw [← hH1]
    exact Heap.get?_push_of_some _ (old1 _ _ (hH ▸ Heap.get?_push_of_some _ e))
  have st₁ : St 0 h₁ := st_keep W hst F.le (Le.trans' F.le up) (F.vol (I, oI) (.head _)) (up _ _ (F.vol (I, oI) (.head _))) hfp
  have F₀ : Fm base g H2.objs.size (fun x => ([] : List (Str × Value)).reverse.lookup x) ((env.locals, oL) :: (I, oI) :: (Dd, lst []) :: (H2.objs.size + 1, { cls := .type "cell", data := .cell none }) :: V) h₁ := FC2.perm (by
    refine List.Perm.trans (List.Perm.swap _ _ _) (List.Perm.cons _ ?_)
    refine List.Perm.trans (List.Perm.swap _ _ _) ?_
    refine List.Perm.trans (List.Perm.cons _ (List.Perm.swap _ _ _)) ?_
    exact List.Perm.trans (List.Perm.swap _ _ _) (List.Perm.cons _ (List.Perm.refl _)))
  have loop : ∀ s₃ : Shared, s₃ = { s₂ with heap := h₁, toks := s₂.toks } →
      codeAny (model prog w) A (.compLoop (.ListComp elt [⟨.Name x px, iter, ifs, 0⟩] scope pos) 0 (.ref I) (.ref Dd) (compEnvC scope ((x, H2.objs.size + 1) :: cl) H2.objs.size env)) (RR (.ref Dd) H2.objs.size) s₃ := by
    rintro s₃ rfl
    refine codeAny_compLoop_tests
      (fun k s' => ∃ h tk i g1 ys m₂ V1 oI oc, s' = { s₂ with heap := h, toks := tk } ∧ (∃ v, oc.data = .cell v) ∧ St i h ∧ Le g g1 ∧ Fm base g1 H2.objs.size m₂ ((env.locals, oL) :: (I, oI) :: (Dd, lst ys) :: (H2.objs.size + 1, oc) :: V1) h ∧ J i g1 ys V1 ∧ i ≤ n ∧ k = n + 1 - i ∧ ys.length ≤ i) ?_ (n + 1)
      ⟨h₁, _, 0, g, [], _, V, oI, _, rfl, ⟨_, rfl⟩, st₁, Le.rfl', F₀, h0, Nat.zero_le _, rfl, Nat.zero_le _⟩
    rintro k s' ⟨h, tk, i, g1, ys, m₂, V1, oI, oc, rfl, ⟨vc, hvc⟩, st, le, F, hJ, hi, rfl, hys⟩
    have fp' : ∀ b ∈ fp, b = I ∨ ∃ o, g1.get? b = some o := fun b hb => (hfp b hb).imp id fun ⟨o, e⟩ => ⟨o, le _ _ e⟩
    by_cases hlt : i < n
    · refine W.item i _ _ _ hlt st fun v h₁ tk₁ hP st₁ hk₁ => ?_
      obtain ⟨oI', e'⟩ := hIo _ _ st₁
      have F₁ : Fm base g1 H2.objs.size m₂ ((env.locals, oL) :: (I, oI') :: (Dd, lst ys) :: (H2.objs.size + 1, oc) :: V1) h₁ := Fm.upd (V1 := [(env.locals, oL)]) F (fun b o hb e => hk₁ b o (by simpa using hb) e) e'
      refine wpAny_assign_Name (wpAny_storeName_cell (c := H2.objs.size + 1) (v₀ := vc) (by simp [compEnvC, relabel, hkind]) (hx _ _) (by simp [compEnvC]) ⟨oc, F₁.vol (H2.objs.size + 1, oc) (by simp), hvc⟩ (fun h₂ hc₂ hs₂ => ?_))
      obtain ⟨oc', ec', dc'⟩ := hc₂
      have F₂ : Fm base g1 H2.objs.size m₂ ((env.locals, oL) :: (I, oI') :: (Dd, lst ys) :: (H2.objs.size + 1, oc') :: V1) h₂ := Fm.upd (V1 := [(env.locals, oL), (I, oI'), (Dd, lst ys)]) F₁ hs₂.extBut ec'
      have st₂ := st_keep W st₁ F₁.le F₂.le e' (F₂.vol (I, oI') (by simp)) fp'
      refine wpAny_mono (turn i v g1 ys V1 oI' _ Dd oL oc' h₂ _ _ hlt hP le hJ q dc' hys F₂) (fun ok s₃ h₃ => ?_) fun _ _ e => e.elim
      cases ok with
      | false =>
        simp only [Bool.false_eq_true, if_false] at h₃ ⊢
        obtain ⟨g2, V2, h2, tk2, m3, rfl, F₃, l2, hJ₂⟩ := h₃
        refine ⟨n + 1 - (i + 1), by omega, h2, tk2, i + 1, g2, ys, m3, V2, oI', oc', rfl, ⟨_, dc'⟩, ?_, Le.trans' le l2, F₃, hJ₂, hlt, rfl, by omega⟩
        exact st_keep W st₂ F₂.le (Le.trans' l2 F₃.le) (F₂.vol (I, oI') (by simp)) (F₃.vol (I, oI') (by simp)) fp'
      | true =>
        simp only [if_true] at h₃ ⊢
        refine wpAny_mono h₃ (fun y s₄ h₄ => ?_) fun _ _ e => e.elim
        obtain ⟨g2, V2, h2, tk2, m3, rfl, F₃, l2, hJ₂⟩ := h₄
        have st₃ := st_keep W st₂ F₂.le (Le.trans' l2 F₃.le) (F₂.vol (I, oI') (by simp)) (F₃.vol (I, oI') (by simp)) fp'
        refine append_at (hsz := by show ys.toArray.size ≤ sizeLine; rw [List.size_toArray]; omega) (F₃.vol (Dd, lst ys) (by simp)) fun h₅ hs₅ hD₅ => ?_
        have F₅ : Fm base g2 H2.objs.size m3 ((env.locals, oL) :: (I, oI') :: (Dd, lst (ys ++ [y])) :: (H2.objs.size + 1, oc') :: V2) h₅ :=
          Fm.upd (V1 := [(env.locals, oL), (I, oI')]) F₃ hs₅.extBut (hD₅.trans (congrArg some (lst_snoc ys y)))
        have fp2 : ∀ b ∈ fp, b = I ∨ ∃ o, g2.get? b = some o := fun b hb => (fp' b hb).imp id fun ⟨o, e⟩ => ⟨o, l2 _ _ e⟩
        refine ⟨n + 1 - (i + 1), by omega, h₅, tk2, i + 1, g2, ys ++ [y], m3, V2, oI', oc', rfl, ⟨_, dc'⟩, ?_, Le.trans' le l2, F₅, hJ₂, hlt, rfl, by simp; omega⟩
        exact st_keep W st₃ F₃.le F₅.le (F₃.vol (I, oI') (by simp)) (F₅.vol (I, oI') (by simp)) fp2
    · obtain rfl : i = n := by omega
      refine W.done _ _ _ st fun h₁ tk₁ hk₁ => ?_
      have FI : Fm base g1 H2.objs.size m₂ ((I, oI) :: (env.locals, oL) :: (Dd, lst ys) :: (H2.objs.size + 1, oc) :: V1) h := F.perm (List.Perm.swap _ _ _)
      have D := FI.drop
      have off := FI.off (I, oI) (.head _)
      have nd := FI.nd
      rw [List.map_cons, List.nodup_cons, List.nodup_cons, List.mem_cons, not_or] at nd
      refine done g1 ys V1 _ Dd oL oc h₁ tk₁ m₂ le hJ q ?_
      have up : Le g1 h₁ := fun b o e => hk₁ b o (by simp; rintro rfl; rw [off] at e; cases e) (FI.le _ _ e)
      exact { F := ⟨FI.F.ns.at' fun o e => hk₁ _ o (by simpa using nd.1.1) e, Le.trans' FI.leb up, FI.F.above⟩, le := up, leb := FI.leb, offL := FI.offL,
              vol := fun p hp => hk₁ _ _ (by rw [List.mem_singleton]; exact fun e => nd.2.1 (List.mem_map.mpr ⟨p, hp, e⟩)) (FI.vol p (.tail _ hp)), off := D.off, nd := D.nd }
  exact codeAny_compStart_list (loop _ rfl) (W.self 0 _ _ _ st₁ (loop _ rfl))

theorem pyIter_compC {elt iter : PySem.Expr} {x : Str} {px : Pos} {ifs : List PySem.Expr} {scope : Scope} {cl : List (Str × Addr)} {pos : Pos} {xv : Value} {RR : Value → Addr → Result → Shared → Prop}
    (S : Src prog w A g xv n P) (F : Fm base g env.locals m V s.heap) (hsz : n ≤ sizeLine)
    (J : Nat → Heap → List Value → List (Addr × Obj) → Prop) (h0 : J 0 g [] V)
    (turn : ∀ i v g1 ys V1 I oI C D oL oc h tk m₂, i < n → P i v → Le g g1 → J i g1 ys V1 → NsObj oL m → oc.data = .cell (some v) → ys.length ≤ i →
      Fm base g1 C m₂ ((env.locals, oL) :: (I, oI) :: (D, lst ys) :: (C + 1, oc) :: V1) h →
      wpAny (model prog w) A (forIn ifs true fun c r => if r = true then do let ok ← isTrue c (compEnvC scope ((x, C + 1) :: cl) C env) (eval c (compEnvC scope ((x, C + 1) :: cl) C env)); pure (ForInStep.yield ok) else pure (ForInStep.yield r))
        (fun ok s₃ => if ok = true then wpAny (model prog w) A (eval elt (compEnvC scope ((x, C + 1) :: cl) C env)) (fun y => CEnd base g1 C [(env.locals, oL), (I, oI), (D, lst ys), (C + 1, oc)] s (fun g2 V2 => J (i + 1) g2 (ys ++ [y]) V2)) (fun _ _ => False) s₃
          else CEnd base g1 C [(env.locals, oL), (I, oI), (D, lst ys), (C + 1, oc)] s (fun g2 V2 => J (i + 1) g2 ys V2) s₃) (fun _ _ => False) { s with heap := h, toks := tk })
    (done : ∀ g1 ys V1 C D oL oc h tk m₂, Le g g1 → J n g1 ys V1 → NsObj oL m → Fm base g1 C m₂ ((env.locals, oL) :: (D, lst ys) :: (C + 1, oc) :: V1) h → RR (.ref D) C (.ok .next) { s with heap := h, toks := tk })
    (hcf : ∀ n, cellsFrom (n + 1) scope.names cl = (x, n + 1) :: cl := by intro _; rfl) (hpc : ∀ h : Heap, pushCells h scope.names = h.push { cls := .type "cell", data := .cell none } := by intro _; rfl) (hkind : scope.kind = .function := by rfl) (hx : ∀ cs C, (compEnvC scope cs C env).kindOf x = some .cell := by intro _ _; rfl) :
    wpAny (model prog w) A (pyIter xv) (fun it s₂ => wpAny (model prog w) A (newList []) (fun acc s₃ => wpAny (model prog w) A (newFunctionEnv scope env.globals cl [] env.qual none .none (some env)) (fun cenv s₄ =>
      codeAny (model prog w) A (.compStart (.ListComp elt [⟨.Name x px, iter, ifs, 0⟩] scope pos) 0 it acc { cenv with scope := relabel scope env }) (RR acc cenv.locals) s₄) E s₃) E s₂) E s :=
  S.it F fun I oI fp St h' W hIo hst F' hfp hown => comp_blockC W hsz hIo hst F' hfp hcf hpc hkind hx J h0 (fun i v g1 ys V1 oI C D oL oc h tk m₂ a b c d e f z G => turn i v g1 ys V1 I oI C D oL oc h tk m₂ a b c d e f z G) done
theorem RT.rd {g : Heap} {T : Addr} {ns : List Int} (r : RT g T (ns.map Dv.i)) : RD g (.ref T) (.t ns) := by
  obtain ⟨vs, ⟨⟨cls, od, data, sl⟩, e, hc, n, hd⟩, ra⟩ := r
  dsimp only at hc hd
  subst hc hd
  exact RD.tup e (RA.intsAre ra)
end
end
section
open PySem PySem.W PyProof.Rows PySem.Calls
set_option maxRecDepth 100000
set_option maxHeartbeats 8000000
section
variable {w : World} {A : Around} {s : Shared} {base g : Heap} {L fa : Addr} {cd : Value} {m mg mb : Str → Option Value} {ld ldf d0 d1 d2 x0 x1 x2 a0 a1 a2 xn dn : Addr} {c0 c1 c2 : List (Int × Int)} {ok : Obj} {kv : Option Value}
local macro_rules | `(tactic| walk_at "getMethod ref") => `(tactic| ((with_reducible show wpAny _ _ (getMethod (Value.ref _) (PySem.Str.ofString "told") _) _ _ _); refine meth_told (by assumption) (by assumption) (CD.keeps (by assumption) (by walk_at "leg")) ?_))
local macro_rules | `(tactic| walk_at "getMethod ref") => `(tactic| ((with_reducible show wpAny _ _ (getMethod (Value.ref _) (PySem.Str.ofString "count") _) _ _ _); refine meth_count (by assumption) (by assumption) (CD.keeps (by assumption) (by walk_at "leg")) ?_))

theorem segB (P : Params) (hP : w.params = P) : ∃ fd st, Nth P 5 fd st ∧ ∀ (D : Md w base mg mb) (F : Fm base g L m [(L + 1 + 1 + 1, ok)] s.heap) (hok : ok.data = .cell kv) (R : Room A 30) (S : LawSt w g L ld ldf d0 d1 d2 x0 x1 x2 a0 a1 a2 xn dn c0 c1 c2)
    (md : m "defs" = some (.ref ldf)) (mn : m "nobody" = some (.ref xn)),
    wpAny (model pg w) A (exec st (lenv fd L fa cd)) (SegEnd base g L s fun g' m' => m' "defs" = some (.ref ldf) ∧ m' "nobody" = some (.ref xn) ∧ ∃ DU, m' "due" = some (.ref DU) ∧ PL g' DU (idx (marks3 c0 c1 c2))) (fun _ _ => False) s := by
  subst hP
  refine ⟨_, _, ⟨_, _, _, _, rfl, rfl, rfl⟩, ?_⟩
  intro D F hok R S md mn
  have hcell := S.cell
  iterate 12 walk1
  refine fm_range1 F ?_
  intro g1 h1 r1 tk1 t1 u1 v1 F1 l1 hr1
  refine pyIter_compC (Src.range0 13 (by omega) (Room.handled (n := 0) (by walk_at "room")) hr1) F1 (by rw [sizeLine_eq]; omega) (fun i g3 ys V1 => V1 = [(L + 1 + 1 + 1, ok)] ∧ RA g3 ys ((marks3 c0 c1 c2).take i)) ⟨rfl, RA.nil⟩ ?_ ?_
  · rintro i v g2 ys V1 I oI C Dd oL oc h tk m₂ hi ⟨t, rfl⟩ le ⟨rfl, hy⟩ q hoc hl F2
    have S2 := S.keeps (Le.trans' l1 le)
    have hcell2 := S2.cell
    refine no_ifs ?_
    rw [if_pos rfl]
    iterate 6 walk1
    refine pyIter_comp (Src.list (Room.handled (n := 0) (by walk_at "room")) (its := [Value.ref d0, .ref d1, .ref d2].toArray) ⟨_, S2.dl, rfl, _, rfl⟩) F2 (by rw [sizeLine_eq]; simp) (fun j g3 zs V2 => V2 = (L, oL) :: (I, oI) :: (Dd, LCg.lst ys) :: (C + 1, oc) :: [(L + 1 + 1 + 1, ok)] ∧ RA g3 zs (([kdfLook c0 i 0, kdfLook c1 i 0, kdfLook c2 i 0].map Dv.i).take j)) ⟨rfl, RA.nil⟩ ?_ ?_
    · rintro j v g3 zs V2 I3 oI3 C3 D3 oL3 h3 tk3 m₃ hj e le3 ⟨rfl, hz⟩ q3 hx3 hl3 F3
      have hj3 : j < 3 := by simpa using hj
      obtain ⟨d, x, a, c, e1, e2, e3, i1, j1, y1, gp⟩ := (S2.keeps le3).nth (k := (j : Int)) (by omega) (by omega)
      rw [Int.toNat_natCast] at e1 e3
      have v1 := vmap e1
      simp only [List.map_cons, List.map_nil] at v1
      have ev : v = .ref d := by
        have : ([Value.ref d0, .ref d1, .ref d2] : List Value)[j]? = some v := by simpa using e
        rw [v1] at this; exact (Option.some.inj this).symm
      subst ev
      refine no_ifs ?_
      rw [if_pos rfl]
      iterate 5 walk1
      refine fm_cell (by rfl) ⟨oc, F3.vol (C + 1, oc) (.tail _ (.tail _ (.tail _ (.tail _ (.tail _ (.tail _ (.head _))))))), hoc⟩ ?_
      iterate 4 walk1
      refine CEnd.mk' F3 Le.rfl' ⟨rfl, hz.snocK Le.rfl' ?_ (RD.int _ _)⟩
      have := congrArg (Option.map fun c => Dv.i (kdfLook c (i : Int) 0)) e3
      rw [← List.getElem?_map] at this
      exact this
    · rintro g3 zs V2 C3 D3 oL3 h3 tk3 m₃ le3 ⟨rfl, hz⟩ q3 F3
      refine comp_done F2 q3 F3 fun g4 h4 l4 F4 hL4 => ?_
      have hR : RL g4 D3 ([kdfLook c0 i 0, kdfLook c1 i 0, kdfLook c2 i 0].map Dv.i) := ⟨zs, hL4, by
        have := hz.keeps l4
        rwa [List.take_of_length_le (by simp)] at this⟩
      clear F3 F2
      iterate 1 walk1
      refine fm_tupleOf F4 hR (by simp) ?_
      intro g5 h5 T5 F5 l5 hT5
      refine CEnd.mk' F5 (Le.trans' le3 (Le.trans' l4 l5)) ⟨rfl, hy.snocK (Le.trans' le3 (Le.trans' l4 l5)) ?_ hT5.rd⟩
      rw [marks3, List.getElem?_map, List.getElem?_range hi]; rfl
  · rintro g2 ys V1 C Dd oL oc h tk m₂ le ⟨rfl, hy⟩ q F2
    refine comp_doneP F1 q F2 fun g3 h3 l3 F3 hL3 => ?_
    have hmk : PL g3 Dd (marks3 c0 c1 c2) := ⟨ys, hL3, by
      have := hy.keeps l3
      rwa [List.take_of_length_le (by simp [marks3])] at this⟩
    have F4 := F3.drop
    clear F3 F2 F1 F
    iterate 2 walk1
    refine marks_spec (by assumption) F4 (by walk_at "room") hmk (by simp [marks3]) ?_
    intro g5 h5 tk5 O F5 l5 hO
    clear F4
    iterate 1 walk1
    rename_i h6 F6
    exact SegEnd.mk' F6 (Le.trans' l1 (Le.trans' le (Le.trans' l3 l5))) hok ⟨md, mn, O, rfl, hO⟩
end
end
section
open PySem PySem.W PyProof.Rows PySem.Calls
set_option maxRecDepth 100000
set_option maxHeartbeats 8000000
local macro_rules | `(tactic| walk_at "pad") => `(tactic| skip)
local macro_rules | `(tactic| walk_at "pad") => `(tactic| skip)
local macro_rules | `(tactic| walk_at "pad") => `(tactic| skip)
section
variable {w : World} {A : Around} {s : Shared} {base g : Heap} {L fa : Addr} {cd : Value} {m mg mb : Str → Option Value} {ld ldf d0 d1 d2 x0 x1 x2 a0 a1 a2 xn dn : Addr} {c0 c1 c2 : List (Int × Int)} {ok : Obj} {kv : Option Value}
local macro_rules | `(tactic| walk_at "getMethod ref") => `(tactic| ((with_reducible show wpAny _ _ (getMethod (Value.ref _) (PySem.Str.ofString "told") _) _ _ _); refine meth_told (by assumption) (by assumption) (CD.keeps (by assumption) (by walk_at "leg")) ?_))
local macro_rules | `(tactic| walk_at "getMethod ref") => `(tactic| ((with_reducible show wpAny _ _ (getMethod (Value.ref _) (PySem.Str.ofString "count") _) _ _ _); refine meth_count (by assumption) (by assumption) (CD.keeps (by assumption) (by walk_at "leg")) ?_))
local macro_rules | `(tactic| walk_at "subscriptTail") => `(tactic| ((with_reducible show wpAny _ _ (subscriptTail _ _ (Value.ref _) (Value.int _ _)) _ _ _); refine fm_item (vs := [_, _, _]) (by assumption) (by walk_at "le") (by assumption) (by omega) (by assumption) ?_))
theorem fm_triple {Q : Value → Shared → Prop} {E : Value → Shared → Prop} {V : List (Addr × Obj)} {x y z : Int} {t u v : Tok} (F : Fm base g L m V s.heap) (k : ∀ g' h' T, Fm base g' L m V h' → Le g g' → RD g' (.ref T) (.t [x, y, z]) → Q (.ref T) { s with heap := h' }) :
    wpAny (model pg w) A (newTuple [.int x t, .int y u, .int z v]) Q E s :=
  fm_tuple F fun g' h' T F' l e => k g' h' T F' l (RD.tup e (.cons _ _ (.cons _ _ (.cons _ _ .nil))))
local macro_rules | `(tactic| walk_at "newTuple") => `(tactic| ((with_reducible show wpAny _ _ (newTuple [Value.int _ _, Value.int _ _, Value.int _ _]) _ _ _); refine fm_triple (by assumption) ?_; intro _ _ _ _ _ _))
theorem segC (P : Params) (hP : w.params = P) : ∃ fd st, Nth P 6 fd st ∧ ∀ (D : Md w base mg mb) (F : Fm base g L m [(L + 1 + 1 + 1, ok)] s.heap) (hok : ok.data = .cell kv) (R : Room A 30) (S : LawSt w g L ld ldf d0 d1 d2 x0 x1 x2 a0 a1 a2 xn dn c0 c1 c2)
    (md : m "defs" = some (.ref ldf)) (mn : m "nobody" = some (.ref xn)) (DU : Addr) (mdu : m "due" = some (.ref DU)) (hdu : PL g DU (idx (marks3 c0 c1 c2))),
    wpAny (model pg w) A (exec st (lenv fd L fa cd)) (SegEnd base g L s fun g' m' => m' "defs" = some (.ref ldf) ∧ m' "nobody" = some (.ref xn)) (fun _ _ => False) s := by
  subst hP
  refine ⟨_, _, ⟨_, _, _, _, rfl, rfl, rfl⟩, ?_⟩
  intro D F hok R S md mn DU mdu hdu
  refine wpAny_For ?_
  iterate 32 walk1
  rename_i g1 h1 T1 F1 l1 r1 g2 h2 T2 F2 l2 r2 g3 h3 T3 F3 l3 r3
  refine fm_list F3 ?_
  intro g4 h4 TL F4 l4 hTL
  have RLT : RL g4 TL [.t [0, 1, 2], .t [1, 2, 0], .t [2, 1, 0]] := ⟨_, hTL, RA.cons (r1.keeps (Le.trans' l2 (Le.trans' l3 l4))) (RA.cons (r2.keeps (Le.trans' l3 l4)) (RA.cons (r3.keeps l4) .nil))⟩
  have l14 := Le.trans' l1 (Le.trans' l2 (Le.trans' l3 l4))
  replace S := S.keeps l14
  replace hdu := hdu.keeps l14
  clear F1 F2 F3
  refine pyIter_loop (Src.rl (Room.handled (n := 0) (by walk_at "room")) RLT) F4 (fun i g1 m1 V1 => V1 = [(L + 1 + 1 + 1, ok)] ∧ m1 "defs" = some (.ref ldf) ∧ m1 "nobody" = some (.ref xn) ∧ m1 "due" = some (.ref DU)) ⟨rfl, md, mn, mdu⟩ ?_ ?_
  · rintro i v g5 m5 V1 I oI h tk hi ⟨dv, e, rd⟩ le ⟨rfl, md5, mn5, mdu5⟩ F5
    obtain ⟨p, q, r, rfl, p0, p1, q0, q1, r0, r1, hperm⟩ : ∃ p q r : Int, dv = .t [p, q, r] ∧ 0 ≤ p ∧ p < 3 ∧ 0 ≤ q ∧ q < 3 ∧ 0 ≤ r ∧ r < 3 ∧ ∀ f : Nat → Prop, (f p.toNat ∧ f q.toNat ∧ f r.toNat ↔ f 0 ∧ f 1 ∧ f 2) := by
      have : i = 0 ∨ i = 1 ∨ i = 2 := by simp at hi; omega
      rcases this with rfl | rfl | rfl
      · simp at e; subst e; exact ⟨_, _, _, rfl, by omega, by omega, by omega, by omega, by omega, by omega, fun f => Iff.rfl⟩
      · simp at e; subst e; exact ⟨_, _, _, rfl, by omega, by omega, by omega, by omega, by omega, by omega, fun f => ⟨fun ⟨a, b, c⟩ => ⟨c, a, b⟩, fun ⟨a, b, c⟩ => ⟨b, c, a⟩⟩⟩
      · simp at e; subst e; exact ⟨_, _, _, rfl, by omega, by omega, by omega, by omega, by omega, by omega, fun f => ⟨fun ⟨a, b, c⟩ => ⟨c, b, a⟩, fun ⟨a, b, c⟩ => ⟨c, b, a⟩⟩⟩
    obtain ⟨T, vs, rfl, hT, hI⟩ := rd.tup_inv
    obtain ⟨t, u, u2, rfl⟩ := triple_vals hI
    have S5 := S.keeps le
    have hdu5 := hdu.keeps le
    have hl1 : g5.IsList ldf [Value.ref x0, .ref x1, .ref x2].toArray := ⟨_, S5.xl, rfl, _, rfl⟩
    obtain ⟨dp, xp, ap, cp, e1, e2, e3, i1, j1, y1, gp⟩ := S5.nth p0 p1
    obtain ⟨dq, xq, aq, cq, e1', e2', e3', i1', j1', y1', gq⟩ := S5.nth q0 q1
    obtain ⟨dr, xr, ar, cr, f1, f2, f3, i2, j2, y2, gr⟩ := S5.nth r0 r1
    have v2 := vmap e2
    have v4 := vmap e2'
    have v6 := vmap f2
    simp only [List.map_cons, List.map_nil] at v2 v4 v6
    have hiff : ∀ i : Nat, i < 13 → ∀ j : Nat, j < 13 → (kdfLook cp i 0 = kdfLook cp j 0 ∧ kdfLook cq i 0 = kdfLook cq j 0 ∧ kdfLook cr i 0 = kdfLook cr j 0 ↔ kdfLook c0 i 0 = kdfLook c0 j 0 ∧ kdfLook c1 i 0 = kdfLook c1 j 0 ∧ kdfLook c2 i 0 = kdfLook c2 j 0) := by
      intro i _ j _
      have := hperm fun k => kdfLook ([c0, c1, c2].getD k []) i 0 = kdfLook ([c0, c1, c2].getD k []) j 0
      simp only [List.getD_eq_getElem?_getD, e3, e3', f3, Option.getD_some] at this
      exact this
    have due1 : parting (jn (jn cp cq).2 cr).2 = idx (marks3 c0 c1 c2) := due_of fun i hi j hj => by
      rw [jn_look _ _ hi hj, jn_look _ _ hi hj, ← hiff i hi j hj, and_assoc]
    have due2 : parting (jn cr (jn cp cq).2).2 = idx (marks3 c0 c1 c2) := due_of fun i hi j hj => by
      rw [jn_look _ _ hi hj, jn_look _ _ hi hj, ← hiff i hi j hj]
      constructor
      · rintro ⟨a, b, c⟩; exact ⟨b, c, a⟩
      · rintro ⟨a, b, c⟩; exact ⟨c, a, b⟩
    refine fm_assign3 (Room.handled (n := 0) (by walk_at "room")) F5 (⟨_, le _ _ hT.choose_spec.1, hT.choose_spec.2⟩ : g5.IsTuple T #[Value.int p t, .int q u, .int r u2]) ?_
    intro h6 F6
    clear F5
    iterate 24 walk1
    refine common_spec (by assumption) (by assumption) (by walk_at "room") y1 j1 y1' j1' gp.keys gq.keys ?_
    intro g7 h7 tk7 TA xA aA lA F7 l7 hTA yA jA rA
    replace hl1 := islist_keeps hl1 l7
    replace y2 := y2.keeps l7
    replace j2 := j2.keeps l7
    replace hdu5 := hdu5.keeps l7
    clear F6
    iterate 1 walk1
    refine fm_tupItem (vs := [.ref xA, .ref lA]) hTA F7.le (by omega) (by simp) (by simp) rfl ?_
    iterate 22 walk1
    refine common_spec (by assumption) (by assumption) (by walk_at "room") yA jA y2 j2 (jn_keys _ _) gr.keys ?_
    intro g8 h8 tk8 TB xB aB lB F8 l8 hTB yB jB rB
    replace hl1 := islist_keeps hl1 l8
    replace y2 := y2.keeps l8
    replace j2 := j2.keeps l8
    replace yA := yA.keeps l8
    replace jA := jA.keeps l8
    replace hdu5 := hdu5.keeps l8
    clear F7
    iterate 1 walk1
    refine fm_tupItem (vs := [.ref xB, .ref lB]) hTB F8.le (by omega) (by simp) (by simp) rfl ?_
    iterate 2 walk1
    refine parting_spec (by assumption) F8 (by walk_at "room") yB jB ?_
    intro g9 h9 tk9 P1 F9 l9 hP1
    replace hl1 := islist_keeps hl1 l9
    replace y2 := y2.keeps l9
    replace j2 := j2.keeps l9
    replace yA := yA.keeps l9
    replace jA := jA.keeps l9
    replace hdu5 := hdu5.keeps l9
    clear F8
    iterate 1 walk1
    refine ne_rl (by walk_at "room") hP1.rl hdu5.rl F9.le ?_
    rw [decide_eq_true due1]
    iterate 21 walk1
    refine common_spec (by assumption) F9 (by walk_at "room") y2 j2 yA jA gr.keys (jn_keys _ _) ?_
    intro g10 h10 tk10 TC xC aC lC F10 l10 hTC yC jC rC
    replace hdu5 := hdu5.keeps l10
    clear F9
    iterate 1 walk1
    refine fm_tupItem (vs := [.ref xC, .ref lC]) hTC F10.le (by omega) (by simp) (by simp) rfl ?_
    iterate 2 walk1
    refine parting_spec (by assumption) F10 (by walk_at "room") yC jC ?_
    intro g11 h11 tk11 P2 F11 l11 hP2
    clear F10
    iterate 1 walk1
    refine ne_rl (by walk_at "room") hP2.rl (hdu5.keeps l11).rl F11.le ?_
    rw [decide_eq_true due2]
    iterate 6 walk1
    refine Turn.next [] F11 (Le.trans' l7 (Le.trans' l8 (Le.trans' l9 (Le.trans' l10 l11)))) ?_
    exact ⟨rfl, md5, mn5, mdu5⟩
  · rintro g5 m5 V1 h tk le ⟨rfl, md5, mn5, mdu5⟩ F5
    exact SegEnd.mk' F5 (Le.trans' l14 le) hok ⟨md5, mn5⟩
end
end
section
open PySem PySem.W PyProof.Rows PySem.Calls
set_option maxRecDepth 100000
set_option maxHeartbeats 8000000
section
variable {w : World} {A : Around} {s : Shared} {base g : Heap} {L fa : Addr} {cd : Value} {m mg mb : Str → Option Value} {ld ldf d0 d1 d2 x0 x1 x2 a0 a1 a2 xn dn : Addr} {c0 c1 c2 : List (Int × Int)} {ok : Obj} {kv : Option Value}
local macro_rules | `(tactic| walk_at "getMethod ref") => `(tactic| ((with_reducible show wpAny _ _ (getMethod (Value.ref _) (PySem.Str.ofString "told") _) _ _ _); refine meth_told (by assumption) (by assumption) (CD.keeps (by assumption) (by walk_at "leg")) ?_))
local macro_rules | `(tactic| walk_at "getMethod ref") => `(tactic| ((with_reducible show wpAny _ _ (getMethod (Value.ref _) (PySem.Str.ofString "count") _) _ _ _); refine meth_count (by assumption) (by assumption) (CD.keeps (by assumption) (by walk_at "leg")) ?_))
theorem id_meth_values {E : Value → Shared → Prop} {d : Addr} {c : List (Int × Int)} {pl : Sem Bool} {Q : Value × List Value → Shared → Prop} (i : ID w s.heap d c) (h : Q (.builtin "dict.values", [.ref d]) s) : wpAny (model pg w) A (getMethod (.ref d) "values" pl) Q E s := by
  obtain ⟨_, kvs, ⟨o, es, ep, e, hc, _⟩, _⟩ := i
  exact getMethod_builtin ⟨o, e, hc.1⟩ PySem.F.plainAttrs_dict PySem.F.slot_dict_values PySem.F.type_dict_values (fun b q => by cases q; exact ⟨o, e, hc.2.1⟩) h
theorem segD (P : Params) (hP : w.params = P) : ∃ fd st, Nth P 7 fd st ∧ ∀ (D : Md w base mg mb) (F : Fm base g L m [(L + 1 + 1 + 1, ok)] s.heap) (hok : ok.data = .cell kv) (R : Room A 30) (S : LawSt w g L ld ldf d0 d1 d2 x0 x1 x2 a0 a1 a2 xn dn c0 c1 c2)
    (md : m "defs" = some (.ref ldf)) (mn : m "nobody" = some (.ref xn)),
    wpAny (model pg w) A (exec st (lenv fd L fa cd)) (SegEnd base g L s fun g' m' => m' "defs" = some (.ref ldf) ∧ m' "nobody" = some (.ref xn)) (fun _ _ => False) s := by
  subst hP
  refine ⟨_, _, ⟨_, _, _, _, rfl, rfl, rfl⟩, ?_⟩
  intro D F hok R S md mn
  refine wpAny_For ?_
  have hcell := S.cell
  iterate 8 walk1
  refine zip_loop (xs := [Value.ref x0, .ref x1, .ref x2].toArray) (ys := [Value.ref d0, .ref d1, .ref d2].toArray) (Room.handled (n := 0) (by walk_at "room")) ⟨_, S.xl, rfl, _, rfl⟩ ⟨_, S.dl, rfl, _, rfl⟩ F (fun i g1 m1 V1 => ∃ ok', V1 = [(L + 1 + 1 + 1, ok')] ∧ (∃ v, ok'.data = .cell v) ∧ m1 "defs" = some (.ref ldf) ∧ m1 "nobody" = some (.ref xn)) (fun g' l => ⟨ok, rfl, ⟨_, hok⟩, md, mn⟩) (fun i g1 g2 m1 V1 h _ => h) ?_ ?_
  · rintro i x y T g1 m1 V1 W h tk ex ey le ⟨ok1, rfl, ⟨kv1, hk1⟩, md1, mn1⟩ hT F1
    have hi3 : i < 3 := by have := (Array.getElem?_eq_some_iff.mp ex).1; simpa using this
    obtain ⟨d, xx, a, c, e1, e2, e3, i1, j1, y1, gp⟩ := S.nth (k := (i : Int)) (by omega) (by omega)
    rw [Int.toNat_natCast] at e1 e2
    have v1 := vmap e2
    have v2 := vmap e1
    simp only [List.map_cons, List.map_nil] at v1 v2
    have ex' : x = .ref xx := by
      have : ([Value.ref x0, .ref x1, .ref x2] : List Value)[i]? = some x := by simpa using ex
      rw [v1] at this; exact (Option.some.inj this).symm
    have ey' : y = .ref d := by
      have : ([Value.ref d0, .ref d1, .ref d2] : List Value)[i]? = some y := by simpa using ey
      rw [v2] at this; exact (Option.some.inj this).symm
    subst ex' ey'
    have y2 := y1.keeps le
    have j2 := j1.keeps le
    have i2 := i1.keeps le
    have yn2 := S.yn.keeps le
    have jn2 := S.jn.keeps le
    refine fm_assign2 (Room.handled (n := 0) (by walk_at "room")) F1 hT ?_
    intro h2 F2
    clear F1
    iterate 3 walk1
    rename_i h3 F3
    refine fm_stC (V1 := W) (V2 := []) F3 rfl hk1 ?_
    intro h4 okn hkn F4
    clear F2 F3
    iterate 6 walk1
    refine ListComp_ ?_
    iterate 6 walk1
    refine fm_range1 F4 ?_
    intro g5 h5 r5 tk5 t5 u5 v5 F5 l5 hr5
    refine pyIter_comp (Src.range0 13 (by omega) (Room.handled (n := 0) (by walk_at "room")) hr5) F5 (by rw [sizeLine_eq]; omega) (fun i g3 ys V1 => V1 = W ++ [(L + 1 + 1 + 1, okn)] ∧ RA g3 ys ((marks1 c).take i)) ⟨rfl, RA.nil⟩ ?_ ?_
    · rintro i' v g6 ys V1 I2 oI2 C D2 oL h tk m₂ hi' ⟨t, rfl⟩ le6 ⟨rfl, hy⟩ q hxn hl F6
      have i6 := i2.keeps (Le.trans' l5 le6)
      refine no_ifs ?_
      rw [if_pos rfl]
      walk1
      refine fm_cell (by rfl) ⟨okn, F6.vol (L + 1 + 1 + 1, okn) (.tail _ (.tail _ (.tail _ (List.mem_append_right _ (.head _))))), hkn⟩ ?_
      iterate 8 walk1
      refine CEnd.mk' (by assumption) Le.rfl' ⟨rfl, hy.snocK Le.rfl' ?_ (RD.int _ _)⟩
      rw [marks1, List.getElem?_map, List.getElem?_range hi']; rfl
    · rintro g6 ys V1 C D2 oL h tk m₂ le6 ⟨rfl, hy⟩ q F6
      refine comp_doneP F5 q F6 fun g7 h7 l7 F7 hL7 => ?_
      have hmk : PL g7 D2 (marks1 c) := ⟨ys, hL7, by
        have := hy.keeps l7
        rwa [List.take_of_length_le (by simp [marks1])] at this⟩
      clear F6 F5 F4
      iterate 2 walk1
      refine marks_spec (by assumption) F7 (by walk_at "room") hmk (by simp [marks1]) ?_
      intro g8 h8 tk8 O F8 l8 hO
      clear F7
      iterate 9 walk1
      rename_i h9 F9
      refine fm_list F9 ?_
      intro g10 h10 TL F10 l10 hTL
      have lX := Le.trans' l5 (Le.trans' le6 (Le.trans' l7 (Le.trans' l8 l10)))
      have y10 := y2.keeps lX
      have j10 := j2.keeps lX
      have i10 := i2.keeps lX
      have yn10 := yn2.keeps lX
      have jn10 := jn2.keeps lX
      have hO10 := hO.keeps l10
      clear F9 F8
      refine pyIter_loop (Src.list (Room.handled (n := 0) (by walk_at "room")) hTL) F10 (fun k g1 m1 V1 => V1 = W ++ [(L + 1 + 1 + 1, okn)] ∧ m1 "defs" = some (.ref ldf) ∧ m1 "nobody" = some (.ref xn) ∧ m1 "one" = some (.ref xx) ∧ m1 "own" = some (.ref O)) ⟨rfl, md1, mn1, rfl, rfl⟩ ?_ ?_
      · rintro k v g11 m11 V1 I2 oI2 h tk hk ek le11 ⟨rfl, md11, mn11, mo11, mw11⟩ F11
        have y11 := y10.keeps le11
        have j11 := j10.keeps le11
        have i11 := i10.keeps le11
        have hO11 := hO10.keeps le11
        obtain ⟨xo, ao, co, rfl, yo, jo, keyo, hown, hcnt⟩ : ∃ xo ao co, v = .ref xo ∧ CD g11 xo ao ∧ ID w g11 ao co ∧ (∀ k ∈ co.map (·.1), 0 ≤ k ∧ k < 13) ∧ parting (jn c co).2 = idx (marks1 c) ∧ cnt (jn c co).2 = ((dist (c.map (·.2))).length : Int) + 1 := by
          have : k = 0 ∨ k = 1 := by simp at hk; omega
          rcases this with rfl | rfl
          · simp at ek; subst ek
            exact ⟨xx, a, c, rfl, y11, j11, gp.keys, own_of fun i hi j hj => by rw [jn_look _ _ hi hj]; simp, jn_count c c gp i1.nodup (fun _ _ _ _ h => h) (fun _ _ h => h)⟩
          · simp at ek; subst ek
            exact ⟨xn, dn, [], rfl, yn10.keeps le11, jn10.keeps le11, (fun _ h => by simp at h), own_of fun i hi j hj => by rw [jn_look _ _ hi hj]; simp [kdfLook], jn_count c [] gp i1.nodup (fun _ _ _ _ _ => rfl) (fun _ _ _ => rfl)⟩
        iterate 13 walk1
        refine common_spec (by assumption) (by assumption) (by walk_at "room") y11 j11 yo jo gp.keys keyo ?_
        intro g12 h12 tk12 TA xA aA lA F12 l12 hTA yA jA rA
        refine fm_assign2 (Room.handled (n := 0) (by walk_at "room")) F12 hTA ?_
        intro h13 F13
        clear F12 F11
        iterate 15 walk1
        refine parting_spec (by assumption) (by assumption) (by walk_at "room") yA jA ?_
        intro g14 h14 tk14 P1 F14 l14 hP1
        clear F13
        iterate 1 walk1
        refine ne_rl (by walk_at "room") hP1.rl (hO11.keeps (Le.trans' l12 l14)).rl F14.le ?_
        rw [decide_eq_true hown]
        replace yA := yA.keeps l14
        replace jA := jA.keeps l14
        iterate 8 walk1
        refine count_spec (by assumption) F14 (by walk_at "room") yA jA ?_
        intro g15 h15 tk15 t15 F15 l15
        rw [hcnt]
        have i15 := i11.keeps (Le.trans' l12 (Le.trans' l14 l15))
        clear F14
        iterate 10 walk1
        refine fm_cell (by rfl) ⟨okn, F15.vol (L + 1 + 1 + 1, okn) (.tail _ (List.mem_append_right _ (.head _))), hkn⟩ ?_
        refine id_meth_values (i15.keeps F15.le) ?_
        walk1
        refine fm_values F15 i15 ?_
        intro g16 h16 T16 F16 l16 hv
        iterate 1 walk1
        refine set_values (by walk_at "room") F16 (i15.keeps l16) hv (by have := i1.len gp.keys; omega) ?_
        rintro h17 tk17 Sx oS F17 ⟨f, hS⟩
        iterate 1 walk1
        refine len_setI hS ?_
        intro tk18 t18
        ((focus (iterate 5 walk1)); (focus (iterate 4 walk1)); (focus skip); rotate_left 1; (focus (iterate 4 walk1)); (focus skip); rotate_left 1; rotate_right 2)
        · rename_i hne; exact absurd rfl hne
        · refine Turn.next [(Sx, oS)] F17 (Le.trans' l12 (Le.trans' l14 (Le.trans' l15 l16))) ?_
          exact ⟨rfl, md11, mn11, mo11, mw11⟩
      · rintro g11 m11 V1 h tk le11 ⟨rfl, md11, mn11, mo11, mw11⟩ F11
        iterate 1 walk1
        exact ZTurn.mk' F11 (Le.trans' lX le11) ⟨okn, rfl, ⟨_, hkn⟩, md11, mn11⟩
  · rintro g1 m1 V1 h tk le ⟨ok1, rfl, ⟨kv1, hk1⟩, md1, mn1⟩ F1
    exact SegEnd.mk' F1 le hk1 ⟨md1, mn1⟩
end
end
section
open PySem PySem.W PyProof.Rows PySem.Calls
set_option maxRecDepth 100000
set_option maxHeartbeats 8000000
local macro_rules | `(tactic| walk_at "pad") => `(tactic| skip)
local macro_rules | `(tactic| walk_at "pad") => `(tactic| skip)
local macro_rules | `(tactic| walk_at "pad") => `(tactic| skip)
section
variable {w : World} {A : Around} {s : Shared} {base g : Heap} {L fa : Addr} {cd : Value} {m mg mb : Str → Option Value} {ld ldf d0 d1 d2 x0 x1 x2 a0 a1 a2 xn dn : Addr} {c0 c1 c2 : List (Int × Int)} {ok : Obj} {kv : Option Value}
local macro_rules | `(tactic| walk_at "getMethod ref") => `(tactic| ((with_reducible show wpAny _ _ (getMethod (Value.ref _) (PySem.Str.ofString "told") _) _ _ _); refine meth_told (by assumption) (by assumption) (CD.keeps (by assumption) (by walk_at "leg")) ?_))
local macro_rules | `(tactic| walk_at "getMethod ref") => `(tactic| ((with_reducible show wpAny _ _ (getMethod (Value.ref _) (PySem.Str.ofString "count") _) _ _ _); refine meth_count (by assumption) (by assumption) (CD.keeps (by assumption) (by walk_at "leg")) ?_))
local macro_rules | `(tactic| walk_at "eval Dict nil nil") => `(tactic| (refine fm_dict (by assumption) (by assumption) ?_; intro _ _ _ _))
def RetEnd (base : Heap) (s : Shared) (f : Flow) (s' : Shared) : Prop := f = .ret (.bool true) ∧ ∃ h' tk L m, s' = { s with heap := h', toks := tk } ∧ Fr base L h' m
theorem segE (P : Params) (hP : w.params = P) : ∃ fd st, Nth P 8 fd st ∧ ∀ (D : Md w base mg mb) (F : Fm base g L m [(L + 1 + 1 + 1, ok)] s.heap) (hok : ok.data = .cell kv) (R : Room A 30) (S : LawSt w g L ld ldf d0 d1 d2 x0 x1 x2 a0 a1 a2 xn dn c0 c1 c2)
    (md : m "defs" = some (.ref ldf)) (mn : m "nobody" = some (.ref xn)),
    wpAny (model pg w) A (exec st (lenv fd L fa cd)) (RetEnd base s) (fun _ _ => False) s := by
  subst hP
  refine ⟨_, _, ⟨_, _, _, _, rfl, rfl, rfl⟩, ?_⟩
  intro D F hok R S md mn
  iterate 3 walk1
  refine ListComp_ ?_
  iterate 1 walk1
  refine pyIter_comp (Src.list (Room.handled (n := 0) (by walk_at "room")) (its := [Value.ref x0, .ref x1, .ref x2].toArray) ⟨_, S.xl, rfl, _, rfl⟩) F (by rw [sizeLine_eq]; simp) (fun i g3 ys V1 => V1 = [(L + 1 + 1 + 1, ok)] ∧ ys.length = i ∧ ∀ (j : Nat) v, ys[j]? = some v → ∃ a d c, v = .ref a ∧ [d0, d1, d2][j]? = some d ∧ ID w g3 a c ∧ ID w g3 d c) ⟨rfl, rfl, fun j v e => by simp at e⟩ ?_ ?_
  · rintro i v g3 ys V1 I oI C D2 oL h tk m₂ hi e le ⟨rfl, hlen, hy⟩ q hxn hl F3
    have hi3 : i < 3 := by simpa using hi
    obtain ⟨d, x, a, c, e1, e2, e3, i1, j1, y1, gp⟩ := S.nth (k := (i : Int)) (by omega) (by omega)
    rw [Int.toNat_natCast] at e1 e2
    have v1 := vmap e2
    simp only [List.map_cons, List.map_nil] at v1
    have ev : v = .ref x := by
      have : ([Value.ref x0, .ref x1, .ref x2] : List Value)[i]? = some v := by simpa using e
      rw [v1] at this; exact (Option.some.inj this).symm
    subst ev
    have y3 := y1.keeps le
    refine no_ifs ?_
    rw [if_pos rfl]
    iterate 3 walk1
    refine CEnd.mk' (by assumption) Le.rfl' ⟨rfl, by simp [hlen], fun j v ej => ?_⟩
    rw [List.getElem?_append] at ej
    split at ej
    · exact hy j v ej
    · rename_i hj
      cases hz : j - ys.length with
      | succ k => rw [hz] at ej; simp at ej
      | zero =>
        rw [hz] at ej; simp at ej; subst ej
        have : j = i := by omega
        exact ⟨a, d, c, rfl, by rw [this]; exact e1, j1.keeps le, i1.keeps le⟩
  · rintro g3 ys V1 C D2 oL h tk m₂ le ⟨rfl, hlen, hy⟩ q F3
    refine comp_done F q F3 fun g4 h4 l4 F4 hL4 => ?_
    have S4 := S.keeps (Le.trans' le l4)
    have hcell := S4.cell
    have yn := S4.yn
    clear F3 F
    iterate 1 walk1
    refine eq_lists (us := ys) (vs := [Value.ref d0, .ref d1, .ref d2]) (by walk_at "room") (islist_keeps hL4 F4.le) ⟨_, F4.le _ _ S4.dl, rfl, _, rfl⟩ (by rw [hlen]; rfl) ?_ ?_
    · intro j u v eu ev
      obtain ⟨a, d, c, rfl, ed, ia, id'⟩ := hy j u eu
      have v1 := vmap ed
      simp only [List.map_cons, List.map_nil] at v1
      rw [v1] at ev
      exact ⟨a, d, c, rfl, (Option.some.inj ev).symm, ia.nodup, ia.keeps (Le.trans' l4 F4.le), id'.keeps (Le.trans' l4 F4.le)⟩
    iterate 8 walk1
    rename_i h5 de lo5 F5
    obtain ⟨g6, F6, l6, e6⟩ := F5.freezeV
    refine eq_id (c := []) (by have := R.units; omega) (by simp) ((S4.jn.keeps l6).keeps F6.le) ((ID.nil lo5 e6).keeps F6.le) ?_
    skip
    exact ⟨rfl, _, _, _, _, rfl, F6.F⟩
end
end
section
open PySem PySem.W PyProof.Rows PySem.Calls
set_option maxRecDepth 100000
section
variable {w : World} {A : Around} {s : Shared} {base g : Heap} {L fa : Addr} {cd : Value} {m mg mb : Str → Option Value} {ld ldf d0 d1 d2 x0 x1 x2 a0 a1 a2 xn dn : Addr} {c0 c1 c2 : List (Int × Int)} {ok : Obj} {kv : Option Value} {fd : FuncData} {st : Stmt} {t : Sem Flow}
theorem segA' (hn : Nth w.params 4 fd st) (D : Md w base mg mb) (F : Fm base g L m [(L + 1 + 1 + 1, ok)] s.heap) (hok : ok.data = .cell kv) (R : Room A 30) (S : LawSt w g L ld ldf d0 d1 d2 x0 x1 x2 a0 a1 a2 xn dn c0 c1 c2) (md : m "defs" = some (.ref ldf)) (mn : m "nobody" = some (.ref xn)) (ht : t = exec st (lenv fd L fa cd)) : wpAny (model pg w) A t (SegEnd base g L s fun g' m' => m' "defs" = some (.ref ldf) ∧ m' "nobody" = some (.ref xn)) (fun _ _ => False) s := by
  obtain ⟨fd', st', h', H⟩ := segA (w := w) (A := A) (s := s) (base := base) (g := g) (L := L) (fa := fa) (cd := cd) (m := m) (mg := mg) (mb := mb) (ld := ld) (ldf := ldf) (d0 := d0) (d1 := d1) (d2 := d2) (x0 := x0) (x1 := x1) (x2 := x2) (a0 := a0) (a1 := a1) (a2 := a2) (xn := xn) (dn := dn) (c0 := c0) (c1 := c1) (c2 := c2) (ok := ok) (kv := kv) w.params rfl
  obtain ⟨rfl, rfl⟩ := Nth.det hn h'
  subst ht
  exact H D F hok R S md mn
theorem segB' (hn : Nth w.params 5 fd st) (D : Md w base mg mb) (F : Fm base g L m [(L + 1 + 1 + 1, ok)] s.heap) (hok : ok.data = .cell kv) (R : Room A 30) (S : LawSt w g L ld ldf d0 d1 d2 x0 x1 x2 a0 a1 a2 xn dn c0 c1 c2) (md : m "defs" = some (.ref ldf)) (mn : m "nobody" = some (.ref xn)) (ht : t = exec st (lenv fd L fa cd)) : wpAny (model pg w) A t (SegEnd base g L s fun g' m' => m' "defs" = some (.ref ldf) ∧ m' "nobody" = some (.ref xn) ∧ ∃ DU, m' "due" = some (.ref DU) ∧ PL g' DU (idx (marks3 c0 c1 c2))) (fun _ _ => False) s := by
  obtain ⟨fd', st', h', H⟩ := segB (w := w) (A := A) (s := s) (base := base) (g := g) (L := L) (fa := fa) (cd := cd) (m := m) (mg := mg) (mb := mb) (ld := ld) (ldf := ldf) (d0 := d0) (d1 := d1) (d2 := d2) (x0 := x0) (x1 := x1) (x2 := x2) (a0 := a0) (a1 := a1) (a2 := a2) (xn := xn) (dn := dn) (c0 := c0) (c1 := c1) (c2 := c2) (ok := ok) (kv := kv) w.params rfl
  obtain ⟨rfl, rfl⟩ := Nth.det hn h'
  subst ht
  exact H D F hok R S md mn
theorem segC' (hn : Nth w.params 6 fd st) (D : Md w base mg mb) (F : Fm base g L m [(L + 1 + 1 + 1, ok)] s.heap) (hok : ok.data = .cell kv) (R : Room A 30) (S : LawSt w g L ld ldf d0 d1 d2 x0 x1 x2 a0 a1 a2 xn dn c0 c1 c2) (md : m "defs" = some (.ref ldf)) (mn : m "nobody" = some (.ref xn)) (DU : Addr) (mdu : m "due" = some (.ref DU)) (hdu : PL g DU (idx (marks3 c0 c1 c2))) (ht : t = exec st (lenv fd L fa cd)) : wpAny (model pg w) A t (SegEnd base g L s fun g' m' => m' "defs" = some (.ref ldf) ∧ m' "nobody" = some (.ref xn)) (fun _ _ => False) s := by
  obtain ⟨fd', st', h', H⟩ := segC (w := w) (A := A) (s := s) (base := base) (g := g) (L := L) (fa := fa) (cd := cd) (m := m) (mg := mg) (mb := mb) (ld := ld) (ldf := ldf) (d0 := d0) (d1 := d1) (d2 := d2) (x0 := x0) (x1 := x1) (x2 := x2) (a0 := a0) (a1 := a1) (a2 := a2) (xn := xn) (dn := dn) (c0 := c0) (c1 := c1) (c2 := c2) (ok := ok) (kv := kv) w.params rfl
  obtain ⟨rfl, rfl⟩ := Nth.det hn h'
  subst ht
  exact H D F hok R S md mn DU mdu hdu
theorem segD' (hn : Nth w.params 7 fd st) (D : Md w base mg mb) (F : Fm base g L m [(L + 1 + 1 + 1, ok)] s.heap) (hok : ok.data = .cell kv) (R : Room A 30) (S : LawSt w g L ld ldf d0 d1 d2 x0 x1 x2 a0 a1 a2 xn dn c0 c1 c2) (md : m "defs" = some (.ref ldf)) (mn : m "nobody" = some (.ref xn)) (ht : t = exec st (lenv fd L fa cd)) : wpAny (model pg w) A t (SegEnd base g L s fun g' m' => m' "defs" = some (.ref ldf) ∧ m' "nobody" = some (.ref xn)) (fun _ _ => False) s := by
  obtain ⟨fd', st', h', H⟩ := segD (w := w) (A := A) (s := s) (base := base) (g := g) (L := L) (fa := fa) (cd := cd) (m := m) (mg := mg) (mb := mb) (ld := ld) (ldf := ldf) (d0 := d0) (d1 := d1) (d2 := d2) (x0 := x0) (x1 := x1) (x2 := x2) (a0 := a0) (a1 := a1) (a2 := a2) (xn := xn) (dn := dn) (c0 := c0) (c1 := c1) (c2 := c2) (ok := ok) (kv := kv) w.params rfl
  obtain ⟨rfl, rfl⟩ := Nth.det hn h'
  subst ht
  exact H D F hok R S md mn
theorem segE' (hn : Nth w.params 8 fd st) (D : Md w base mg mb) (F : Fm base g L m [(L + 1 + 1 + 1, ok)] s.heap) (hok : ok.data = .cell kv) (R : Room A 30) (S : LawSt w g L ld ldf d0 d1 d2 x0 x1 x2 a0 a1 a2 xn dn c0 c1 c2) (md : m "defs" = some (.ref ldf)) (mn : m "nobody" = some (.ref xn)) (ht : t = exec st (lenv fd L fa cd)) : wpAny (model pg w) A t (RetEnd base s) (fun _ _ => False) s := by
  obtain ⟨fd', st', h', H⟩ := segE (w := w) (A := A) (s := s) (base := base) (g := g) (L := L) (fa := fa) (cd := cd) (m := m) (mg := mg) (mb := mb) (ld := ld) (ldf := ldf) (d0 := d0) (d1 := d1) (d2 := d2) (x0 := x0) (x1 := x1) (x2 := x2) (a0 := a0) (a1 := a1) (a2 := a2) (xn := xn) (dn := dn) (c0 := c0) (c1 := c1) (c2 := c2) (ok := ok) (kv := kv) w.params rfl
  obtain ⟨rfl, rfl⟩ := Nth.det hn h'
  subst ht
  exact H D F hok R S md mn
end
end
section
open PySem PySem.W PyProof.Rows PySem.Calls
set_option maxRecDepth 100000
set_option maxHeartbeats 8000000
local macro_rules | `(tactic| walk_at "pad") => `(tactic| skip)
local macro_rules | `(tactic| walk_at "pad") => `(tactic| skip)
local macro_rules | `(tactic| walk_at "pad") => `(tactic| skip)
local macro_rules | `(tactic| walk_at "pad") => `(tactic| skip)
local macro_rules | `(tactic| walk_at "pad") => `(tactic| skip)
local macro_rules | `(tactic| walk_at "pad") => `(tactic| skip)
local macro_rules | `(tactic| walk_at "pad") => `(tactic| skip)
theorem law_post (ns : List Int) : PySem.Challenge.rw_pb0147_01.row.claim.post [ofPy (PyData.list (List.map PyData.int ns))] (WData.bool true) [ofPy (PyData.list (List.map PyData.int ns))] = true := by
  with_unfolding_all rfl
theorem law_raises (ns : List Int) : ∀ cls, PySem.Challenge.rw_pb0147_01.row.claim.raises [ofPy (PyData.list (List.map PyData.int ns))] cls = false := fun _ => by with_unfolding_all rfl
theorem law_good {h' : Heap} {L : Addr} {m : Str → Option Value} {s₀ s₁ : Shared} {tk : Nat} (ns : List Int) (hg : s₁.gens = #[]) (F : Fr s₁.heap L h' m) : GoodW PySem.Challenge.rw_pb0147_01.row.claim (classAt s₀.heap) (ExcName.means s₀.heap) [ofPy (PyData.list (List.map PyData.int ns))] s₁ (Except.ok (Flow.ret (.bool true))) { s₁ with heap := h', toks := tk } :=
  goodW_bool (s' := { s₁ with heap := h', toks := tk }) F hg (law_raises ns) (law_post ns)
/-- how law ends -/
def LawEnd (base : Heap) (s₁ : Shared) (f : Flow) (s' : Shared) : Prop := ∃ h' tk L m, s' = { s₁ with heap := h', toks := tk } ∧ Fr base L h' m ∧ f = .ret (.bool true)
local macro_rules | `(tactic| walk_at "getMethod ref") => `(tactic| ((with_reducible show wpAny _ _ (getMethod (Value.ref _) (PySem.Str.ofString "told") _) _ _ _); refine meth_told (by assumption) (by assumption) (CD.keeps (by assumption) (by walk_at "leg")) ?_))
local macro_rules | `(tactic| walk_at "getMethod ref") => `(tactic| ((with_reducible show wpAny _ _ (getMethod (Value.ref _) (PySem.Str.ofString "count") _) _ _ _); refine meth_count (by assumption) (by assumption) (CD.keeps (by assumption) (by walk_at "leg")) ?_))
local macro_rules | `(tactic| walk_at "eval Dict nil nil") => `(tactic| (refine fm_dict (by assumption) (by assumption) ?_; intro _ _ _ _))
theorem law_holds : PySem.Challenge.rw_pb0147_01.Holds := hd (by
  k_go0
  rename_i w s₀ s₁ mg mb G Y fa o pm doc ho hg KX X VL GL T B TE TW wa wb M wc wd hcd ns hs hlay0 hL1 hr1 hl2 we wf l vs wg hL ra w1 r0 hI hr hcond hcond2 K0 hD h₁ tk₁ Fr0 ok od op dk dd dp N0 X0
  replace dk : ok.data = .cell none := dk
  replace dd : od.data = .cell none := dd
  replace dp : op.data = .cell none := dp
  have D : Md w s₁.heap mg mb := ⟨KX, T.g, T.b, T.nolimit, T.builtins⟩
  have R : Room callerA 40 := by
    refine ⟨rfl, ?_, ?_⟩ <;> decide
  generalize hbase : s₁.heap = base at *
  refine wpAny_mono (Q := LawEnd base s₁) (E := fun _ _ => False) ?_ ?_ (fun _ _ e => e.elim)
  · have hnd : ∀ n : Nat, (n :: [n + 1 + 1 + 1, n + 1 + 1, n + 1]).Nodup := by intro n; simp; omega
    have F : Fm base base base.objs.size _ [(base.objs.size + 1 + 1 + 1, ok), (base.objs.size + 1 + 1, od), (base.objs.size + 1, op)] h₁ :=
      { F := Fr0, le := Fr0.keep, leb := Le.rfl', offL := get_size_none base, vol := fun p hp => (N0 p hp).1, off := fun p hp => (N0 p hp).2.2, nd := hnd _ }
    have R' := R.deeper
    clear N0 X0 Fr0 hcd hD K0 T B TE TW GL VL X G Y hs hlay0 hL1 hr1 hl2 ra w1 r0 hr hcond2 M ho KX hg
    generalize base.objs.size = L at *
    dsimp only
    refine (show wpAny (model pg w) _ _ _ _ _ from ?_)
    iterate 4 walk1
    refine ListComp_ ?_
    iterate 7 walk1
    refine fm_slice40 F hL hI (by have := IntsAre.len hI; omega) ?_
    intro g2 h2 T2 cells F2 l2 hT2 hcz
    refine pyIter_comp (Src.rl (Room.handled (n := 0) (by walk_at "room")) hT2) F2 (by rw [sizeLine_eq]; simp; omega) (fun i g3 ys V1 => V1 = [(L + 1 + 1 + 1, ok), (L + 1 + 1, od), (L + 1, op)] ∧ RA g3 ys ((cells.map Dv.i).take i)) ⟨rfl, RA.nil⟩ ?_ ?_
    · rintro i v g3 ys V1 I oI C Dd oL h tk m₂ hi ⟨d, e, rd⟩ le ⟨rfl, hy⟩ q hxn hl F3
      rw [List.getElem?_map] at e
      obtain ⟨n, e2, rfl⟩ := Option.map_eq_some_iff.mp e
      obtain ⟨t, rfl⟩ := rd.int_inv
      refine no_ifs ?_
      rw [if_pos rfl]
      iterate 7 walk1
      refine CEnd.mk' F3 Le.rfl' ⟨rfl, hy.snocK Le.rfl' ?_ (RD.int _ _)⟩
      rw [List.getElem?_map, e2]; rfl
    · rintro g3 ys V1 C Dd oL h tk m₂ le ⟨rfl, hy⟩ q F3
      refine comp_done F2 q F3 fun g4 h4 l4 F4 hL4 => ?_
      have hcl : RL g4 Dd (cells.map Dv.i) := ⟨ys, hL4, by
        have := hy.keeps l4
        rwa [List.take_of_length_le (by simp)] at this⟩
      clear F3 F2 F hL hI
      iterate 5 walk1
      refine fm_pen F4 ?_
      intro h5 P po hP F5
      clear F4
      refine fm_stC (V1 := [(P, po), (L + 1 + 1 + 1, ok), (L + 1 + 1, od)]) (V2 := []) F5 rfl dp ?_
      intro h6 op6 dp6 F6
      obtain ⟨g7, F7, l7, e7⟩ := (F6.perm (V1 := (L + 1, op6) :: (P, po) :: (L + 1 + 1 + 1, ok) :: [(L + 1 + 1, od)]) (List.perm_middle (l₁ := [(P, po), (L + 1 + 1 + 1, ok), (L + 1 + 1, od)]) (l₂ := []))).freezeV
      have hcpen : g7.IsCell (L + 1) (some (.ref P)) := ⟨op6, e7, dp6⟩
      replace hcl := hcl.keeps l7
      clear F5 F6
      iterate 2 walk1
      refine ListComp_ ?_
      iterate 6 walk1
      refine fm_range1 F7 ?_
      intro g8 h8 r8 tk8 t8 u8 v8 F8 l8 hr8
      refine pyIter_comp (Src.range0 3 (by omega) (Room.handled (n := 0) (by walk_at "room")) hr8) F8 (by rw [sizeLine_eq]; omega) (fun i g3 ys V1 => ∃ po' seat rest cs, V1 = [(P, po'), (L + 1 + 1 + 1, ok), (L + 1 + 1, od)] ∧ cs.length = i ∧ PO po' Dd seat rest ∧ 0 ≤ seat ∧ seat ≤ 19 * i ∧ 0 ≤ rest ∧ DL w g3 ys cs) ⟨po, 0, 0, [], rfl, rfl, hP, by omega, by omega, by omega, rfl, fun i v e => by simp at e⟩ ?_ ?_
      · rintro i v g9 ys V1 I oI C D2 oL h tk m₂ hi ⟨t, rfl⟩ le ⟨po', seat, rest, cs, rfl, hcs, P', q0, q1, q2, hDL⟩ q hxn hl F9
        have hcp9 := hcpen.keeps (Le.trans' l8 le)
        have hcl9 := hcl.keeps (Le.trans' l8 le)
        refine no_ifs ?_
        rw [if_pos rfl]
        iterate 7 walk1
        refine lclasses_at (V1 := [_, _, _]) (by assumption) F9 (by walk_at "room") P' hcl9 hcz q0 (by omega) q2 ?_
        intro g10 h10 tk10 d c o' seat' rest' F10 l10 hID hGd P10 s0 s1 r0
        exact CEnd.mk' F10 l10 ⟨o', seat', rest', cs ++ [c], rfl, by simp [hcs], P10, s0, by omega, r0, (hDL.keeps l10).snoc hID hGd⟩
      · rintro g9 ys V1 C D2 oL h tk m₂ le ⟨po', seat, rest, cs, rfl, hcs, P', q0, q1, q2, hDL⟩ q F9
        refine comp_doneP F8 q F9 fun g10 h10 l10 F10 hL10 => ?_
        replace hDL := hDL.keeps l10
        clear F9 F8 F7
        skip
        refine fm_stC (V1 := [(P, po'), (L + 1 + 1 + 1, ok)]) (V2 := []) F10 rfl dd ?_
        intro h11 od11 dd11 F11
        obtain ⟨g12, F12, l12, e12⟩ := (F11.perm (V1 := (L + 1 + 1, od11) :: (P, po') :: [(L + 1 + 1 + 1, ok)]) (List.perm_middle (l₁ := [(P, po'), (L + 1 + 1 + 1, ok)]) (l₂ := []))).freezeV
        have hcd : g12.IsCell (L + 1 + 1) (some (.ref D2)) := ⟨od11, e12, dd11⟩
        replace hDL := hDL.keeps l12
        replace hL10 := l12 _ _ hL10
        replace F12 := F12.drop
        clear F11 F10
        walk1
        refine Assign_ListComp_ ?_
        iterate 1 walk1
        refine pyIter_comp (Src.list (Room.handled (n := 0) (by walk_at "room")) (its := ys.toArray) ⟨_, hL10, rfl, _, rfl⟩) F12 (by rw [sizeLine_eq, List.size_toArray, hDL.1, hcs]; omega) (fun i g3 zs V1 => V1 = [(L + 1 + 1 + 1, ok)] ∧ XL w g3 zs (cs.take i)) ⟨rfl, rfl, fun i v e => by simp at e⟩ ?_ ?_
        · rintro i v g13 zs V1 I oI C D3 oL h tk m₂ hi e le ⟨rfl, hXL⟩ q hxn hl F13
          obtain ⟨d, c, rfl, e3, hID, hGd⟩ := hDL.2 i v (by simpa using e)
          have hID13 := hID.keeps le
          refine no_ifs ?_
          rw [if_pos rfl]
          iterate 10 walk1
          refine fm_dictOf (by assumption) F13 hID13 (by have := hID.len hGd.keys; omega) ?_
          intro g14 h14 d14 F14 l14 hID14
          iterate 2 walk1
          refine mk_spec (by assumption) F14 (by walk_at "room") ?_
          intro g15 h15 tk15 x15 F15 l15 hx15
          have e4 : cs.take (i + 1) = cs.take i ++ [c] := by rw [List.take_add_one, e3]; rfl
          refine CEnd.mk' F15 (Le.trans' l14 l15) ⟨rfl, ?_⟩
          rw [e4]
          exact (hXL.keeps (Le.trans' l14 l15)).snoc hx15 (hID14.keeps l15)
        · rintro g13 zs V1 C D3 oL h tk m₂ le ⟨rfl, hXL⟩ q F13
          refine comp_doneAP F12 q F13 fun g14 h14 tk14 l14 F14 hL14 => ?_
          rw [List.size_toArray, hDL.1, List.take_length] at hXL
          have l24 := Le.trans' le l14
          replace hXL := hXL.keeps l14
          replace hDL := hDL.keeps l24
          replace hcd := hcd.keeps l24
          replace hL10 := l24 _ _ hL10
          obtain ⟨d0, d1, d2, c0, c1, c2, rfl, rfl, ⟨i0, gd0⟩, ⟨i1, gd1⟩, i2, gd2⟩ := hDL.three hcs
          obtain ⟨x0, x1, x2, a0, a1, a2, rfl, ⟨xx0, j0⟩, ⟨xx1, j1⟩, xx2, j2⟩ := hXL.three rfl
          clear hDL hXL F13 F12 hcpen hcl hT2 hP
          iterate 9 walk1
          rename_i h15 dn lon F15
          obtain ⟨g16, F16, l16, e16⟩ := F15.freezeV
          have in16 : ID w g16 dn [] := ID.nil lon e16
          refine mk_spec (by assumption) F16 (by walk_at "room") ?_
          intro g17 h17 tk17 xn F17 l17 hxn
          have l67 := Le.trans' l16 l17
          replace hcd := hcd.keeps l67
          replace hL10 := l67 _ _ hL10
          replace hL14 := l67 _ _ hL14
          replace i0 := i0.keeps l67
          replace i1 := i1.keeps l67
          replace i2 := i2.keeps l67
          replace j0 := j0.keeps l67
          replace j1 := j1.keeps l67
          replace j2 := j2.keeps l67
          replace xx0 := xx0.keeps l67
          replace xx1 := xx1.keeps l67
          replace xx2 := xx2.keeps l67
          replace in16 := in16.keeps l17
          have S : LawSt w g17 L D2 D3 d0 d1 d2 x0 x1 x2 a0 a1 a2 xn dn c0 c1 c2 := ⟨hcd, hL10, hL14, i0, i1, i2, j0, j1, j2, xx0, xx1, xx2, gd0, gd1, gd2, hxn, in16⟩
          clear F16 F15 F14 hcd hL10 hL14 i0 i1 i2 j0 j1 j2 xx0 xx1 xx2 hxn in16 e16
          iterate 2 walk1
          rename_i h18 F18
          have nA : Nth w.params 4 _ _ := ⟨_, _, _, _, rfl, rfl, rfl⟩
          have HFA : Fm base _ L _ [(L + 1 + 1 + 1, _)] _ := F18
          with_reducible refine wpAny_mono (segA' (fa := fa) (cd := .ref wc) nA D HFA dk ?hRA S ?hdA ?hnA ?htA) ?hzA (fun _ _ e => e.elim)
          case htA => rfl
          case hRA => exact (R' _).le (by omega)
          case hdA => rfl
          case hnA => rfl
          intro f s' e
          obtain ⟨rfl, gA, mA, hA, tkA, okA, rfl, FA, lA, ⟨vA, hvA⟩, mdA, mnA⟩ := e
          replace S := S.keeps lA
          dsimp only
          walk1
          have nB : Nth w.params 5 _ _ := ⟨_, _, _, _, rfl, rfl, rfl⟩
          have HFB : Fm base _ L _ [(L + 1 + 1 + 1, _)] _ := FA
          with_reducible refine wpAny_mono (segB' (fa := fa) (cd := .ref wc) nB D HFB hvA ?hRB S mdA mnA ?htB) ?hzB (fun _ _ e => e.elim)
          case htB => rfl
          case hRB => exact (R' _).le (by omega)
          intro f s' e
          obtain ⟨rfl, gB, mB, hB, tkB, okB, rfl, FB, lB, ⟨vB, hvB⟩, mdB, mnB, DU, mdu, hdu⟩ := e
          replace S := S.keeps lB
          dsimp only
          walk1
          have nC : Nth w.params 6 _ _ := ⟨_, _, _, _, rfl, rfl, rfl⟩
          have HFC : Fm base _ L _ [(L + 1 + 1 + 1, _)] _ := FB
          with_reducible refine wpAny_mono (segC' (fa := fa) (cd := .ref wc) nC D HFC hvB ?hRC S mdB mnB DU mdu hdu ?htC) ?hzC (fun _ _ e => e.elim)
          case htC => rfl
          case hRC => exact (R' _).le (by omega)
          intro f s' e
          obtain ⟨rfl, gC, mC, hC, tkC, okC, rfl, FC, lC, ⟨vC, hvC⟩, mdC, mnC⟩ := e
          replace S := S.keeps lC
          dsimp only
          walk1
          have nD : Nth w.params 7 _ _ := ⟨_, _, _, _, rfl, rfl, rfl⟩
          have HFD : Fm base _ L _ [(L + 1 + 1 + 1, _)] _ := FC
          with_reducible refine wpAny_mono (segD' (fa := fa) (cd := .ref wc) nD D HFD hvC ?hRD S mdC mnC ?htD) ?hzD (fun _ _ e => e.elim)
          case htD => rfl
          case hRD => exact (R' _).le (by omega)
          intro f s' e
          obtain ⟨rfl, gD, mD, hD, tkD, okD, rfl, FD, lD, ⟨vD, hvD⟩, mdD, mnD⟩ := e
          replace S := S.keeps lD
          dsimp only
          walk1
          have nE : Nth w.params 8 _ _ := ⟨_, _, _, _, rfl, rfl, rfl⟩
          have HFE : Fm base _ L _ [(L + 1 + 1 + 1, _)] _ := FD
          with_reducible refine wpAny_mono (segE' (fa := fa) (cd := .ref wc) nE D HFE hvD ?hRE S mdD mnD ?htE) ?hzE (fun _ _ e => e.elim)
          case htE => rfl
          case hRE => exact (R' _).le (by omega)
          intro f s' e
          obtain ⟨rfl, hE, tkE, LE, mE, rfl, FE⟩ := e
          exact ⟨hE, tkE, LE, mE, rfl, FE, rfl⟩
  · rintro f s' ⟨h', tk, L', m', rfl, FrE, rfl⟩
    subst hbase
    dsimp only
    exact law_good ns hg FrE)
end
end
end Mine
theorem PySem.Challenge.cw_pb0147_01_holds : PySem.Challenge.rw_pb0147_01.Holds :=
  Mine.law_holds
