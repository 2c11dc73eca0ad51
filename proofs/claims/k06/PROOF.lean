import PyProof.Rows.All
import Wide.All
import OpenK.AllK
import Wide.FinOn
import HandS.ForMost
import HandS.ForExc
import HandS.Wide
import HandS.IsInst
import HandS.SortInts
import HandS.Conv
import PyProof.StrBlock2
import PyProof.Rows.StrMul
import HandS.Text
import PySem.Challenge.RW_overhaul_k06_good_names
set_option Elab.async false
set_option linter.all false
set_option maxRecDepth 100000
set_option maxHeartbeats 4000000
/-! Big steps over owned trees: the state. -/
namespace Bg
open PySem L2

/-- what a mutable thing holds, as a tree; da: data that never changes -/
inductive Rs where
  | da (d : PyData)
  | lst (ds : List PyData)
  | dct (kvs : List (Key × Rs))
  | dtt (kvs : List (List Key × PyData))
  | ins (C : Addr) (fs : List (Str × Rs))
abbrev VR := V × Rs

section
variable {K : PySem.W.Frag}
theorem sqT_mono {H H' : Hp} (e : Same H H') {a : Addr} {xs : List V} (h : SqT K H a xs) : SqT K H' a xs := by
  rcases h with (h | ⟨o, h⟩) | h
  · exact .inl (.inl (e _ _ h))
  · exact .inl (.inr ⟨o, e _ _ h⟩)
  · exact .inr h
mutual
theorem dp_mono {H H' : Hp} (e : Same H H') : ∀ {v : V} {d : PyData}, Dp K H v d → Dp K H' v d
  | _, _, .non => .non
  | _, _, .bl b => .bl b
  | _, _, .int i => .int i
  | _, _, .str x => .str x
  | _, _, .lst h t => .lst (e.seq h) (dpAll_mono e t)
  | _, _, .tup h t => .tup (sqT_mono e h) (dpAll_mono e t)
theorem dpAll_mono {H H' : Hp} (e : Same H H') : ∀ {vs : List V} {ds : List PyData}, DpAll K H vs ds → DpAll K H' vs ds
  | _, _, .nil => .nil
  | _, _, .cons h t => .cons (dp_mono e h) (dpAll_mono e t)
end
theorem dpAll_length {H : Hp} : ∀ {vs : List V} {ds : List PyData}, DpAll K H vs ds → vs.length = ds.length
  | _, _, .nil => rfl
  | _, _, .cons _ t => by simp [dpAll_length t]
theorem dpAll_append {H : Hp} : ∀ {vs ws : List V} {ds es : List PyData}, DpAll K H vs ds → DpAll K H ws es → DpAll K H (vs ++ ws) (ds ++ es)
  | _, _, _, _, .nil, h => h
  | _, _, _, _, .cons h t, h' => .cons h (dpAll_append t h')
theorem dpAll_get {H : Hp} : ∀ {vs : List V} {ds : List PyData} {i : Nat} {d : PyData}, DpAll K H vs ds → ds[i]? = some d → ∃ v, vs[i]? = some v ∧ Dp K H v d
  | _, _, _, _, .nil, h => by simp at h
  | _, _, 0, _, .cons h _, e => by simp at e; subst e; exact ⟨_, rfl, h⟩
  | _, _, i + 1, _, .cons _ t, e => by
    obtain ⟨v, h1, h2⟩ := dpAll_get (i := i) t (by simpa using e)
    exact ⟨v, by simpa using h1, h2⟩
theorem dpAll_get' {H : Hp} {vs : List V} {ds : List PyData} {i : Nat} {v : V} (h : DpAll K H vs ds) (e : vs[i]? = some v) : ∃ d, ds[i]? = some d ∧ Dp K H v d := by
  have hl := dpAll_length h
  have hi := (List.getElem?_eq_some_iff.mp e).1
  have hd : ds[i]? = some ds[i] := List.getElem?_eq_getElem (by omega)
  obtain ⟨w, hw, q⟩ := dpAll_get h hd
  rw [e] at hw; cases hw
  exact ⟨_, hd, q⟩
theorem dpAll_set {H : Hp} : ∀ {vs : List V} {ds : List PyData} (i : Nat) {v : V} {d : PyData}, DpAll K H vs ds → Dp K H v d → DpAll K H (vs.set i v) (ds.set i d)
  | _, _, _, _, _, .nil, _ => .nil
  | _, _, 0, _, _, .cons _ t, h => .cons h t
  | _, _, i + 1, _, _, .cons q t, h => .cons q (dpAll_set i t h)
theorem dpAll_take {H : Hp} : ∀ {vs : List V} {ds : List PyData} (n : Nat), DpAll K H vs ds → DpAll K H (vs.take n) (ds.take n)
  | _, _, 0, _ => .nil
  | _, _, _ + 1, .nil => .nil
  | _, _, n + 1, .cons h t => .cons h (dpAll_take n t)
theorem dpAll_drop {H : Hp} : ∀ {vs : List V} {ds : List PyData} (n : Nat), DpAll K H vs ds → DpAll K H (vs.drop n) (ds.drop n)
  | _, _, 0, h => h
  | _, _, _ + 1, .nil => .nil
  | _, _, n + 1, .cons _ t => dpAll_drop n t
theorem dpAll_eraseIdx {H : Hp} : ∀ {vs : List V} {ds : List PyData} (n : Nat), DpAll K H vs ds → DpAll K H (vs.eraseIdx n) (ds.eraseIdx n)
  | _, _, _, .nil => .nil
  | _, _, 0, .cons h t => t
  | _, _, n + 1, .cons h t => .cons h (dpAll_eraseIdx n t)
theorem dp_int {H : Hp} {v : V} {i : Int} (h : Dp K H v (.int i)) : v = .int i := by cases h; rfl
theorem dp_bool {H : Hp} {v : V} {i : Bool} (h : Dp K H v (.bool i)) : v = .bl i := by cases h; rfl
theorem dp_str {H : Hp} {v : V} {i : Str} (h : Dp K H v (.str i)) : v = .str i := by cases h; rfl
theorem dp_none {H : Hp} {v : V} (h : Dp K H v .none) : v = .non := by cases h; rfl
theorem dp_tup {H : Hp} {v : V} {ds : List PyData} (h : Dp K H v (.tuple ds)) : ∃ a xs, v = .ref a ∧ SqT K H a xs ∧ DpAll K H xs ds := by cases h with | tup a b => exact ⟨_, _, rfl, a, b⟩
theorem dp_lst {H : Hp} {v : V} {ds : List PyData} (h : Dp K H v (.list ds)) : ∃ a xs, v = .ref a ∧ SqL K H a xs ∧ DpAll K H xs ds := by cases h with | lst a b => exact ⟨_, _, rfl, a, b⟩
end

mutual
inductive Own (K : PySem.W.Frag) (Hs H : Hp) : V → Rs → List Addr → Prop
  | da {v : V} {d : PyData} : Dp K Hs v d → Own K Hs H v (.da d) []
  | lst {a : Addr} {xs : List V} {ds : List PyData} : H a = some (.lst xs) → DpAll K Hs xs ds → Own K Hs H (.ref a) (.lst ds) [a]
  | dct {a : Addr} {kvv : List (Key × V)} {kvs : List (Key × Rs)} {fp : List Addr} : H a = some (.dK kvv) → OwnK K Hs H kvv kvs fp → Own K Hs H (.ref a) (.dct kvs) (a :: fp)
  | dtt {a : Addr} {kvv : List (List Key × V)} {kvs : List (List Key × PyData)} : H a = some (.dT kvv) → kvv.map (·.1) = kvs.map (·.1) → DpAll K Hs (kvv.map (·.2)) (kvs.map (·.2)) → Own K Hs H (.ref a) (.dtt kvs) [a]
  | ins {a dx C : Addr} {fv : List (Str × V)} {fs : List (Str × Rs)} {fp : List Addr} : H a = some (.ins C dx fv) → OwnF K Hs H fv fs fp → Own K Hs H (.ref a) (.ins C fs) (a :: fp)
inductive OwnK (K : PySem.W.Frag) (Hs H : Hp) : List (Key × V) → List (Key × Rs) → List Addr → Prop
  | nil : OwnK K Hs H [] [] []
  | cons {k : Key} {v : V} {r : Rs} {fp fps : List Addr} {t : List (Key × V)} {u : List (Key × Rs)} : Own K Hs H v r fp → OwnK K Hs H t u fps → OwnK K Hs H ((k, v) :: t) ((k, r) :: u) (fp ++ fps)
inductive OwnF (K : PySem.W.Frag) (Hs H : Hp) : List (Str × V) → List (Str × Rs) → List Addr → Prop
  | nil : OwnF K Hs H [] [] []
  | cons {k : Str} {v : V} {r : Rs} {fp fps : List Addr} {t : List (Str × V)} {u : List (Str × Rs)} : Own K Hs H v r fp → OwnF K Hs H t u fps → OwnF K Hs H ((k, v) :: t) ((k, r) :: u) (fp ++ fps)
end
inductive OwnL (K : PySem.W.Frag) (Hs H : Hp) : List VR → List Addr → Prop
  | nil : OwnL K Hs H [] []
  | cons {v : V} {r : Rs} {fp fps : List Addr} {L : List VR} : Own K Hs H v r fp → OwnL K Hs H L fps → OwnL K Hs H ((v, r) :: L) (fp ++ fps)

section
variable {K : PySem.W.Frag} {Hs Hs' H H' : Hp}
mutual
theorem own_mono (e : Same Hs Hs') : ∀ {v : V} {r : Rs} {fp : List Addr}, Own K Hs H v r fp → (∀ a ∈ fp, ∀ o, H a = some o → H' a = some o) → Own K Hs' H' v r fp
  | _, _, _, .da d, _ => .da (dp_mono e d)
  | _, _, _, .lst h t, f => .lst (f _ (by simp) _ h) (dpAll_mono e t)
  | _, _, _, .dct h t, f => .dct (f _ (by simp) _ h) (ownK_mono e t fun a m => f a (by simp [m]))
  | _, _, _, .dtt h k t, f => .dtt (f _ (by simp) _ h) k (dpAll_mono e t)
  | _, _, _, .ins h t, f => .ins (f _ (by simp) _ h) (ownF_mono e t fun a m => f a (by simp [m]))
theorem ownK_mono (e : Same Hs Hs') : ∀ {v : List (Key × V)} {r : List (Key × Rs)} {fp : List Addr}, OwnK K Hs H v r fp → (∀ a ∈ fp, ∀ o, H a = some o → H' a = some o) → OwnK K Hs' H' v r fp
  | _, _, _, .nil, _ => .nil
  | _, _, _, .cons h t, f => .cons (own_mono e h fun a m => f a (by simp [m])) (ownK_mono e t fun a m => f a (by simp [m]))
theorem ownF_mono (e : Same Hs Hs') : ∀ {v : List (Str × V)} {r : List (Str × Rs)} {fp : List Addr}, OwnF K Hs H v r fp → (∀ a ∈ fp, ∀ o, H a = some o → H' a = some o) → OwnF K Hs' H' v r fp
  | _, _, _, .nil, _ => .nil
  | _, _, _, .cons h t, f => .cons (own_mono e h fun a m => f a (by simp [m])) (ownF_mono e t fun a m => f a (by simp [m]))
end
theorem ownL_mono (e : Same Hs Hs') : ∀ {L : List VR} {fp : List Addr}, OwnL K Hs H L fp → (∀ a ∈ fp, ∀ o, H a = some o → H' a = some o) → OwnL K Hs' H' L fp
  | _, _, .nil, _ => .nil
  | _, _, .cons h t, f => .cons (own_mono e h fun a m => f a (by simp [m])) (ownL_mono e t fun a m => f a (by simp [m]))
mutual
theorem own_there : ∀ {v : V} {r : Rs} {fp : List Addr}, Own K Hs H v r fp → ∀ a ∈ fp, ∃ o, H a = some o
  | _, _, _, .da d, a, m => by simp at m
  | _, _, _, .lst h t, a, m => by simp at m; subst m; exact ⟨_, h⟩
  | _, _, _, .dct h t, a, m => by
    rcases List.mem_cons.mp m with rfl | m
    · exact ⟨_, h⟩
    · exact ownK_there t a m
  | _, _, _, .dtt h k t, a, m => by simp at m; subst m; exact ⟨_, h⟩
  | _, _, _, .ins h t, a, m => by
    rcases List.mem_cons.mp m with rfl | m
    · exact ⟨_, h⟩
    · exact ownF_there t a m
theorem ownK_there : ∀ {v : List (Key × V)} {r : List (Key × Rs)} {fp : List Addr}, OwnK K Hs H v r fp → ∀ a ∈ fp, ∃ o, H a = some o
  | _, _, _, .nil, a, m => by simp at m
  | _, _, _, .cons h t, a, m => by
    rcases List.mem_append.mp m with m | m
    · exact own_there h a m
    · exact ownK_there t a m
theorem ownF_there : ∀ {v : List (Str × V)} {r : List (Str × Rs)} {fp : List Addr}, OwnF K Hs H v r fp → ∀ a ∈ fp, ∃ o, H a = some o
  | _, _, _, .nil, a, m => by simp at m
  | _, _, _, .cons h t, a, m => by
    rcases List.mem_append.mp m with m | m
    · exact own_there h a m
    · exact ownF_there t a m
end
theorem ownL_there : ∀ {L : List VR} {fp : List Addr}, OwnL K Hs H L fp → ∀ a ∈ fp, ∃ o, H a = some o
  | _, _, .nil, a, m => by simp at m
  | _, _, .cons h t, a, m => by
    rcases List.mem_append.mp m with m | m
    · exact own_there h a m
    · exact ownL_there t a m

theorem ownL_perm {L L' : List VR} (p : L.Perm L') : ∀ {fp : List Addr}, OwnL K Hs H L fp → ∃ fp', OwnL K Hs H L' fp' ∧ fp.Perm fp' := by
  induction p with
  | nil => intro fp h; exact ⟨fp, h, .refl _⟩
  | cons x _ ih =>
    intro fp h
    cases h with
    | cons h t =>
      obtain ⟨fp', q, r⟩ := ih t
      exact ⟨_, .cons h q, r.append_left _⟩
  | swap x y l =>
    intro fp h
    cases h with
    | cons h t =>
      cases t with
      | cons h' t =>
        refine ⟨_, .cons h' (.cons h t), ?_⟩
        rename_i fa fb fc
        rw [← List.append_assoc, ← List.append_assoc]
        exact List.perm_append_comm.append_right _
  | trans _ _ ih1 ih2 =>
    intro fp h
    obtain ⟨f1, q1, r1⟩ := ih1 h
    obtain ⟨f2, q2, r2⟩ := ih2 q1
    exact ⟨f2, q2, r1.trans r2⟩
theorem same_upd {p : Addr} {o : HO} (np : H p = none) : Same H (upd H p o) := fun b u e => by
  rw [upd_ne (ne_of_none e np)]; exact e

/-- only new things have come -/
structure Ext (Hs H Hs' H' : Hp) : Prop where
  data : Same Hs Hs'
  all : Same H H'
  sub : Same Hs' H'
  new : ∀ a o, Hs' a = some o → Hs a = some o ∨ H a = none
theorem Ext.refl {Hs H : Hp} (s : Same Hs H) : Ext Hs H Hs H := ⟨.refl _, .refl _, s, fun _ _ e => .inl e⟩
theorem Ext.trans {Hs H Hs1 H1 Hs2 H2 : Hp} (a : Ext Hs H Hs1 H1) (b : Ext Hs1 H1 Hs2 H2) : Ext Hs H Hs2 H2 :=
  ⟨a.data.trans b.data, a.all.trans b.all, b.sub, fun c o e => (b.new c o e).elim (fun z => a.new c o z) fun z => .inr (a.all.free z)⟩
/-- a new thing that is data -/
theorem Ext.grow {Hs H : Hp} {p : Addr} {o : HO} (s : Same Hs H) (np : H p = none) : Ext Hs H (upd Hs p o) (upd H p o) :=
  ⟨same_upd (s.free np), same_upd np, fun b u e => by
    by_cases hb : b = p
    · subst hb; rw [upd_same] at e ⊢; exact e
    · rw [upd_ne hb] at e ⊢; exact s b u e, fun b u e => by
    by_cases hb : b = p
    · subst hb; exact .inr np
    · rw [upd_ne hb] at e; exact .inl e⟩
/-- a new thing that is none -/
theorem Ext.more {Hs H : Hp} {p : Addr} {o : HO} (s : Same Hs H) (np : H p = none) : Ext Hs H Hs (upd H p o) :=
  ⟨.refl _, same_upd np, s.trans (same_upd np), fun b u e => .inl e⟩

/-- what a def's run must leave as it was: Hs0, H0 at its entry, W the addresses that it may write; vs0 its arguments -/
structure Gh where
  Hs0 : Hp
  H0 : Hp
  W : Addr → Prop
  vs0 : List V
/-- the live part of the heap: data stand in Hs, which never changes; the things of L stand apart -/
structure St9 (K : PySem.W.Frag) (g : Gh) (Hs H : Hp) (L : List VR) : Prop where
  sub : Same Hs H
  own : ∃ fp, OwnL K Hs H L fp ∧ fp.Nodup ∧ ∀ a ∈ fp, Hs a = none ∧ (g.H0 a = none ∨ g.W a)
  data : Same g.Hs0 Hs
  new : ∀ a o, Hs a = some o → g.Hs0 a = some o ∨ g.H0 a = none ∨ g.W a
  keep : ∀ a o, g.H0 a = some o → ¬ g.W a → H a = some o
variable {g : Gh}
theorem St9.free {L : List VR} (h : St9 K g Hs H L) {a : Addr} (n : H a = none) : g.H0 a = none ∨ g.W a := by
  by_cases w : g.W a
  · exact .inr w
  · cases e : g.H0 a with
    | none => exact .inl rfl
    | some o => rw [h.keep a o e w] at n; cases n
theorem st_perm {L L' : List VR} (p : L.Perm L') (h : St9 K g Hs H L) : St9 K g Hs H L' := by
  obtain ⟨fp, o, n, f⟩ := h.own
  obtain ⟨fp', o', p'⟩ := ownL_perm p o
  exact ⟨h.sub, ⟨fp', o', p'.nodup n, fun a m => f a (p'.mem_iff.mpr m)⟩, h.data, h.new, h.keep⟩
theorem st_tail {x : VR} {L : List VR} (h : St9 K g Hs H (x :: L)) : St9 K g Hs H L := by
  obtain ⟨fp, o, n, f⟩ := h.own
  cases o with
  | cons _ t => exact ⟨h.sub, ⟨_, t, (List.nodup_append.mp n).2.1, fun a m => f a (by simp [m])⟩, h.data, h.new, h.keep⟩
theorem st_drop {L M : List VR} (h : St9 K g Hs H (L ++ M)) : St9 K g Hs H M := by
  induction L with
  | nil => exact h
  | cons x L ih => exact ih (st_tail h)
theorem st_dp {L : List VR} {v : V} {d : PyData} (h : St9 K g Hs H ((v, .da d) :: L)) : Dp K Hs v d := by
  obtain ⟨fp, o, n, f⟩ := h.own
  cases o with
  | cons h t => cases h with | da q => exact q
theorem st_own {L : List VR} {v : V} {r : Rs} (h : St9 K g Hs H ((v, r) :: L)) : ∃ fp, Own K Hs H v r fp ∧ ∀ a ∈ fp, Hs a = none := by
  obtain ⟨fp, o, n, f⟩ := h.own
  cases o with
  | cons h t => exact ⟨_, h, fun a m => (f a (by simp [m])).1⟩
theorem st_ext {L : List VR} (e : Ext Hs H Hs' H') (h : St9 K g Hs H L) : St9 K g Hs' H' L := by
  obtain ⟨fp, o, n, f⟩ := h.own
  refine ⟨e.sub, ⟨fp, ownL_mono e.data o fun a _ u z => e.all a u z, n, fun a m => ⟨?_, (f a m).2⟩⟩, h.data.trans e.data, fun a u z => ?_, fun a u z w => e.all a u (h.keep a u z w)⟩
  · cases q : Hs' a with
    | none => rfl
    | some u =>
      rcases e.new a u q with z | z
      · rw [(f a m).1] at z; cases z
      · obtain ⟨u', z'⟩ := ownL_there o a m
        rw [z] at z'; cases z'
  · rcases e.new a u z with q | q
    · exact h.new a u q
    · exact .inr (h.free q)
/-- a new thing joins -/
theorem st_new {L : List VR} {v : V} {x : Rs} {fp : List Addr} (e : Ext Hs H Hs' H') (h : St9 K g Hs H L) (q : Own K Hs' H' v x fp) (n : fp.Nodup) (f : ∀ a ∈ fp, H a = none ∧ Hs' a = none) : St9 K g Hs' H' ((v, x) :: L) := by
  have h' := st_ext e h
  obtain ⟨fp0, o, n0, f0⟩ := h.own
  obtain ⟨fp1, o1, n1, f1⟩ := h'.own
  have o' := ownL_mono e.data o fun a _ u z => e.all a u z
  refine ⟨h'.sub, ⟨fp ++ fp0, .cons q o', ?_, fun a m => ?_⟩, h'.data, h'.new, h'.keep⟩
  · refine List.nodup_append.mpr ⟨n, n0, fun a m b m' z => ?_⟩
    subst z
    obtain ⟨u, z⟩ := ownL_there o a m'
    rw [(f a m).1] at z; cases z
  · rcases List.mem_append.mp m with m | m
    · exact ⟨(f a m).2, h.free (f a m).1⟩
    · refine ⟨?_, (f0 a m).2⟩
      cases q : Hs' a with
      | none => rfl
      | some u =>
        rcases e.new a u q with z | z
        · rw [(f0 a m).1] at z; cases z
        · obtain ⟨u', z'⟩ := ownL_there o a m
          rw [z] at z'; cases z'
theorem st_data {L : List VR} {v : V} {d : PyData} (h : St9 K g Hs H L) (q : Dp K Hs v d) : St9 K g Hs H ((v, .da d) :: L) :=
  st_new (.refl h.sub) h (.da q) (by simp) (by simp)
/-- a thing is changed in place: its own footprint turns from fp0 to fp1 -/
theorem st_turn {L : List VR} {v : V} {r r' : Rs} {fp0 fp1 fpL : List Addr} (h : St9 K g Hs H []) (o0 : Own K Hs H v r fp0) (oL : OwnL K Hs H L fpL) (n : (fp0 ++ fpL).Nodup) (f : ∀ a ∈ fp0 ++ fpL, Hs a = none ∧ (g.H0 a = none ∨ g.W a))
    (k : ∀ a, a ∉ fp0 → ∀ o, H a = some o → H' a = some o) (o1 : Own K Hs H' v r' fp1) (h1 : ∀ a ∈ fp1, a ∈ fp0 ∨ H a = none) (n1 : fp1.Nodup) : St9 K g Hs H' ((v, r') :: L) := by
  obtain ⟨n0, nL, d⟩ := List.nodup_append.mp n
  have dis : ∀ a ∈ fpL, a ∉ fp0 := fun a m m' => d a m' a m rfl
  refine ⟨fun b u e => k b (fun m => ?_) u (h.sub b u e), ⟨fp1 ++ fpL, .cons o1 (ownL_mono (.refl _) oL fun a m u e => k a (dis a m) u e), ?_, fun a m => ?_⟩, h.data, h.new, fun a o z w => k a (fun m => ?_) o (h.keep a o z w)⟩
  · rw [(f b (by simp [m])).1] at e; cases e
  · refine List.nodup_append.mpr ⟨n1, nL, fun a m b m' e => ?_⟩
    subst e
    rcases h1 a m with q | q
    · exact dis a m' q
    · obtain ⟨u, z⟩ := ownL_there oL a m'
      rw [q] at z; cases z
  · rcases List.mem_append.mp m with m | m
    · rcases h1 a m with q | q
      · exact f a (by simp [q])
      · exact ⟨h.sub.free q, h.free q⟩
    · exact f a (by simp [m])
  · rcases (f a (by simp [m])).2 with q | q
    · rw [z] at q; cases q
    · exact w q
theorem st_nil {L : List VR} (h : St9 K g Hs H L) : St9 K g Hs H [] := ⟨h.sub, ⟨[], .nil, by simp, by simp⟩, h.data, h.new, h.keep⟩
/-- a list of L -/
theorem st_lst {L : List VR} {v : V} {ds : List PyData} (h : St9 K g Hs H ((v, .lst ds) :: L)) : ∃ a xs, v = .ref a ∧ H a = some (.lst xs) ∧ DpAll K Hs xs ds ∧
    (∀ xs' ds', DpAll K Hs xs' ds' → St9 K g Hs (upd H a (.lst xs')) ((v, .lst ds') :: L)) ∧ (∃ Hs', Same Hs Hs' ∧ St9 K g Hs' H ((v, .da (.list ds)) :: L)) := by
  obtain ⟨fp, ow, n, f⟩ := h.own
  cases ow with
  | cons o t =>
    cases o with
    | lst e q =>
      rename_i fpL a xs
      have fa := f a (by simp)
      have s1 : Same Hs (upd Hs a (.lst xs)) := same_upd fa.1
      refine ⟨a, xs, rfl, e, q, fun xs' ds' q' => ?_, upd Hs a (.lst xs), s1, ?_⟩
      · exact st_turn (st_nil h) (.lst e q) t n f (fun b hb o z => by rw [upd_ne (by simpa using hb)]; exact z) (.lst upd_same q') (fun b m => .inl m) (by simp)
      · refine ⟨?_, ⟨[] ++ fpL, .cons (.da (.lst (SqL.of upd_same) (dpAll_mono s1 q))) (ownL_mono s1 t fun _ _ _ z => z), (List.nodup_append.mp n).2.1, fun b m => ?_⟩, h.data.trans s1, fun b u z => ?_, h.keep⟩
        · intro b u z
          by_cases hb : b = a
          · subst hb; rw [upd_same] at z; cases z; exact e
          · rw [upd_ne hb] at z; exact h.sub b u z
        · have : b ≠ a := fun z => by
            subst z
            exact (List.nodup_append.mp n).2.2 b (by simp) b m rfl
          rw [upd_ne this]; exact f b (by simp at m; simp [m])
        · by_cases hb : b = a
          · subst hb; exact .inr fa.2
          · rw [upd_ne hb] at z; exact h.new b u z
end
end Bg

namespace Bg
open PySem L2

/-! ### slots: nothing known; a thing of one's own (or data); a thing that is only read -/
inductive Sv where
  | un | ow (r : Rs) | bo (r : Rs)
def Sv.tr : Sv → Option Rs
  | .un => none
  | .ow r => some r
  | .bo r => some r
abbrev En := List Sv
inductive Sl : St → En → List VR → Prop
  | nil : Sl [] [] []
  | un {s : Option V} {σ : St} {ρ : En} {L : List VR} : Sl σ ρ L → Sl (s :: σ) (.un :: ρ) L
  | bo {s : Option V} {r : Rs} {σ : St} {ρ : En} {L : List VR} : Sl σ ρ L → Sl (s :: σ) (.bo r :: ρ) L
  | ow {v : V} {r : Rs} {σ : St} {ρ : En} {L : List VR} : Sl σ ρ L → Sl (some v :: σ) (.ow r :: ρ) ((v, r) :: L)
theorem sl_len : ∀ {σ : St} {ρ : En} {L : List VR}, Sl σ ρ L → σ.length = ρ.length
  | _, _, _, .nil => rfl
  | _, _, _, .un h => by simp [sl_len h]
  | _, _, _, .bo h => by simp [sl_len h]
  | _, _, _, .ow h => by simp [sl_len h]
theorem sl_get : ∀ {σ : St} {ρ : En} {L : List VR} {i : Nat} {r : Rs}, Sl σ ρ L → ρ[i]? = some (.ow r) →
    ∃ v L1 L2, σ[i]? = some (some v) ∧ L = L1 ++ (v, r) :: L2 ∧ (∀ r', Sl σ (ρ.set i (.ow r')) (L1 ++ (v, r') :: L2)) ∧ Sl σ (ρ.set i .un) (L1 ++ L2)
  | _, _, _, _, _, .nil, e => by simp at e
  | _, _, _, 0, _, .un _, e => by simp at e
  | _, _, _, 0, _, .bo _, e => by simp at e
  | _, _, _, i + 1, r, .un h, e => by
    obtain ⟨v, L1, L2, a, b, c, d⟩ := sl_get (i := i) h (by simpa using e)
    exact ⟨v, L1, L2, by simpa using a, b, fun r' => .un (c r'), .un d⟩
  | _, _, _, i + 1, r, .bo h, e => by
    obtain ⟨v, L1, L2, a, b, c, d⟩ := sl_get (i := i) h (by simpa using e)
    exact ⟨v, L1, L2, by simpa using a, b, fun r' => .bo (c r'), .bo d⟩
  | _, _, _, 0, r, .ow h, e => by
    simp at e; subst e
    exact ⟨_, [], _, rfl, rfl, fun r' => .ow h, .un h⟩
  | _, _, _, i + 1, r, .ow h, e => by
    obtain ⟨v, L1, L2, a, b, c, d⟩ := sl_get (i := i) h (by simpa using e)
    subst b
    exact ⟨v, _ :: L1, L2, by simpa using a, rfl, fun r' => .ow (c r'), .ow d⟩
theorem sl_set {v : V} {r : Rs} : ∀ {σ : St} {ρ : En} {L : List VR} (i : Nat), Sl σ ρ L → i < ρ.length →
    ∃ L' L0 Lx, Sl (σ.set i (some v)) (ρ.set i (.ow r)) L' ∧ L.Perm (Lx ++ L0) ∧ L'.Perm ((v, r) :: L0)
  | _, _, _, _, .nil, e => by simp at e
  | _, _, _, 0, .un h, _ => ⟨_, _, [], .ow h, .refl _, .refl _⟩
  | _, _, _, 0, .bo h, _ => ⟨_, _, [], .ow h, .refl _, .refl _⟩
  | _, _, _, 0, .ow h, _ => ⟨_, _, [_], .ow h, .refl _, .refl _⟩
  | _, _, _, i + 1, .un h, e => by
    obtain ⟨L', L0, Lx, a, b, c⟩ := sl_set i h (by simpa using e)
    exact ⟨L', L0, Lx, .un a, b, c⟩
  | _, _, _, i + 1, .bo h, e => by
    obtain ⟨L', L0, Lx, a, b, c⟩ := sl_set i h (by simpa using e)
    exact ⟨L', L0, Lx, .bo a, b, c⟩
  | _, _, _, i + 1, .ow h, e => by
    obtain ⟨L', L0, Lx, a, b, c⟩ := sl_set i h (by simpa using e)
    exact ⟨_, (_, _) :: L0, Lx, .ow a, (b.cons _).trans (List.perm_middle.symm), (c.cons _).trans (.swap _ _ _)⟩

structure EnvAt (K : PySem.W.Frag) (mk : List Bool) (g : Gh) (Hs H : Hp) (T : List VR) (σ : St) (ρ : En) : Prop where
  st : ∃ L, Sl σ ρ L ∧ St9 K g Hs H (L ++ T)
  pk : ∀ (i : Nat) (v : V), mk[i]? = some true → g.vs0[i]? = some v → σ[i]? = some (some v)
  bor : ∀ (i : Nat) (r : Rs), ρ[i]? = some (.bo r) → ∃ v fp, σ[i]? = some (some v) ∧ Own K g.Hs0 g.H0 v r fp ∧ ∀ a ∈ fp, ¬ g.W a
/-- what may be read -/
structure EnvQ (K : PySem.W.Frag) (Hs H : Hp) (σ : St) (ρ : En) : Prop where
  sub : Same Hs H
  sl : ∀ (i : Nat) (s : Sv) (r : Rs), ρ[i]? = some s → s.tr = some r → ∃ v fp, σ[i]? = some (some v) ∧ Own K Hs H v r fp

section
variable {K : PySem.W.Frag} {mk : List Bool} {g : Gh} {Hs Hs' H H' : Hp} {T T' : List VR} {σ : St} {ρ : En} {v : V} {d : PyData} {x : Rs}
theorem st_front {L fr : List VR} {x : VR} (h : St9 K g Hs H (L ++ x :: fr)) : St9 K g Hs H (x :: (L ++ fr)) := st_perm List.perm_middle h
theorem st_back {L fr : List VR} {x : VR} (h : St9 K g Hs H (x :: (L ++ fr))) : St9 K g Hs H (L ++ x :: fr) := st_perm List.perm_middle.symm h
theorem env_sub (e : EnvAt K mk g Hs H T σ ρ) : Same Hs H := let ⟨_, _, h⟩ := e.st; h.sub
theorem env_q (e : EnvAt K mk g Hs H T σ ρ) : EnvQ K Hs H σ ρ := by
  refine ⟨env_sub e, fun i s r h1 h2 => ?_⟩
  obtain ⟨L, sl, h8⟩ := e.st
  cases s with
  | un => cases h2
  | ow r' =>
    cases h2
    obtain ⟨v, L1, L2, a, b, _⟩ := sl_get sl h1
    subst b
    obtain ⟨fp, o, _⟩ := st_own (v := v) (r := r) (L := L1 ++ L2 ++ T) (st_perm (by simp [List.append_assoc, List.perm_middle]) h8)
    exact ⟨v, fp, a, o⟩
  | bo r' =>
    cases h2
    obtain ⟨v, fp, a, o, w⟩ := e.bor i _ h1
    exact ⟨v, fp, a, own_mono h8.data o fun b m u z => h8.keep b u z (w b m)⟩
theorem envQ_ext (e : Ext Hs H Hs' H') (q : EnvQ K Hs H σ ρ) : EnvQ K Hs' H' σ ρ :=
  ⟨e.sub, fun i s r h1 h2 => let ⟨v, fp, a, o⟩ := q.sl i s r h1 h2; ⟨v, fp, a, own_mono e.data o fun b _ u z => e.all b u z⟩⟩
theorem env_map (e : EnvAt K mk g Hs H T σ ρ) (f : ∀ L, St9 K g Hs H (L ++ T) → St9 K g Hs' H' (L ++ T')) : EnvAt K mk g Hs' H' T' σ ρ :=
  ⟨let ⟨L, a, b⟩ := e.st; ⟨L, a, f L b⟩, e.pk, e.bor⟩
theorem env_ext (e : Ext Hs H Hs' H') (q : EnvAt K mk g Hs H T σ ρ) : EnvAt K mk g Hs' H' T σ ρ := env_map q fun _ h => st_ext e h
theorem env_new {fp : List Addr} (e : Ext Hs H Hs' H') (q : EnvAt K mk g Hs H T σ ρ) (o : Own K Hs' H' v x fp) (n : fp.Nodup) (f : ∀ a ∈ fp, H a = none ∧ Hs' a = none) : EnvAt K mk g Hs' H' ((v, x) :: T) σ ρ :=
  env_map q fun _ h => st_back (st_new e h o n f)
theorem env_pop {x : VR} (e : EnvAt K mk g Hs H (x :: T) σ ρ) : EnvAt K mk g Hs H T σ ρ := env_map e fun L h => st_tail (st_front h)
theorem env_dp (e : EnvAt K mk g Hs H ((v, .da d) :: T) σ ρ) : Dp K Hs v d := let ⟨_, _, h⟩ := e.st; st_dp (st_front h)
theorem env_push (e : EnvAt K mk g Hs H T σ ρ) (q : Dp K Hs v d) : EnvAt K mk g Hs H ((v, .da d) :: T) σ ρ := env_map e fun L h => st_back (st_data h q)
theorem envQ_data {i : Nat} (e : EnvQ K Hs H σ ρ) (h : (ρ[i]?).bind Sv.tr = some (.da d)) : ∃ v, σ[i]? = some (some v) ∧ Dp K Hs v d := by
  cases q : ρ[i]? with
  | none => rw [q] at h; cases h
  | some s =>
    rw [q] at h
    obtain ⟨v, fp, a, o⟩ := e.sl i s _ q h
    cases o with | da o => exact ⟨v, a, o⟩
theorem envQ_tree {i : Nat} {r : Rs} (e : EnvQ K Hs H σ ρ) (h : (ρ[i]?).bind Sv.tr = some r) : ∃ v fp, σ[i]? = some (some v) ∧ Own K Hs H v r fp := by
  cases q : ρ[i]? with
  | none => rw [q] at h; cases h
  | some s =>
    rw [q] at h
    exact e.sl i s _ q h
end

/-! ### quiet judgements: nothing that stood has changed -/
def tQ (K : PySem.W.Frag) (ρ : En) (x : Rs) : TE := fun σ H Q => ∃ Hs, EnvQ K Hs H σ ρ ∧ ∀ v Hs' H' fp, Ext Hs H Hs' H' → Own K Hs' H' v x fp → fp.Nodup → (∀ a ∈ fp, H a = none ∧ Hs' a = none) → Q v H'
def tQT (K : PySem.W.Frag) (ρ : En) (b : Bool) : TT := fun σ H Q => ∃ Hs, EnvQ K Hs H σ ρ ∧ ∀ Hs' H', Ext Hs H Hs' H' → Q b H'
def tQs (K : PySem.W.Frag) (ρ : En) (ds : List PyData) : TA := fun σ H Q => ∃ Hs, EnvQ K Hs H σ ρ ∧ ∀ vs Hs' H', Ext Hs H Hs' H' → DpAll K Hs' vs ds → Q vs H'
def QV (X : Cx) (e : Expr) (ρ : En) (x : Rs) : Prop := PE X e (tQ X.K ρ x)
/-- .. of data -/
abbrev QD (X : Cx) (e : Expr) (ρ : En) (d : PyData) : Prop := QV X e ρ (.da d)
def QT (X : Cx) (e : Expr) (ρ : En) (b : Bool) : Prop := PT X e (tQT X.K ρ b)
def QW (X : Cx) (e : Expr) (ρ : En) (b : Bool) : Prop := PW X e (tQT X.K ρ b)
def QDs (X : Cx) (es : List Expr) (ρ : En) (ds : List PyData) : Prop := PA X es (tQs X.K ρ ds)

theorem pe_imp {X : Cx} {e : Expr} {t t' : TE} (h : PE X e t) (f : ∀ σ H Q, t' σ H Q → t σ H Q) : PE X e t' := ⟨fun pins s σ H Q I q => h.run pins s σ H Q I (f σ H Q q)⟩
theorem pt_imp {X : Cx} {e : Expr} {t t' : TT} (h : PT X e t) (f : ∀ σ H Q, t' σ H Q → t σ H Q) : PT X e t' := ⟨fun pins s σ H Q I q => h.run pins s σ H Q I (f σ H Q q)⟩
theorem pw_imp {X : Cx} {e : Expr} {t t' : TT} (h : PW X e t) (f : ∀ σ H Q, t' σ H Q → t σ H Q) : PW X e t' := ⟨fun w pins s σ H Q I q => h.run w pins s σ H Q I (f σ H Q q)⟩
theorem pa_imp {X : Cx} {e : List Expr} {t t' : TA} (h : PA X e t) (f : ∀ σ H Q, t' σ H Q → t σ H Q) : PA X e t' := ⟨fun p pins s σ H Q I q => h.run p pins s σ H Q I (f σ H Q q)⟩
theorem ps_imp {X : Cx} {e : Stmt} {t t' : TS} (h : PS X e t) (f : ∀ D σ H, t' D σ H → t D σ H) : PS X e t' := ⟨fun pins s σ H D I q => h.run pins s σ H D I (f D σ H q)⟩
theorem pss_imp {X : Cx} {e : List Stmt} {t t' : TS} (h : PSs X e t) (f : ∀ D σ H, t' D σ H → t D σ H) : PSs X e t' := ⟨fun pins s σ H D I q => h.run pins s σ H D I (f D σ H q)⟩
theorem pi_imp {X : Cx} {tg iter : Expr} {t t' : TI} (h : PI X tg iter t) (f : ∀ σ H Q, t' σ H Q → t σ H Q) : PI X tg iter t' := ⟨fun pins s σ H Q I q => h.run pins s σ H Q I (f σ H Q q)⟩
/-- a derivation that is there only where p holds -/
def gE (p : Prop) (t : TE) : TE := fun σ H Q => p ∧ t σ H Q
def gT (p : Prop) (t : TT) : TT := fun σ H Q => p ∧ t σ H Q
def gS (p : Prop) (t : TS) : TS := fun D σ H => p ∧ t D σ H
theorem pe_given {X : Cx} {e : Expr} {t : TE} {p : Prop} (h : p → PE X e t) : PE X e (gE p t) := ⟨fun pins s σ H Q I q => (h q.1).run pins s σ H Q I q.2⟩
theorem pw_given {X : Cx} {e : Expr} {t : TT} {p : Prop} (h : p → PW X e t) : PW X e (gT p t) := ⟨fun w pins s σ H Q I q => (h q.1).run w pins s σ H Q I q.2⟩
theorem pt_given {X : Cx} {e : Expr} {t : TT} {p : Prop} (h : p → PT X e t) : PT X e (gT p t) := ⟨fun pins s σ H Q I q => (h q.1).run pins s σ H Q I q.2⟩
theorem pss_given {X : Cx} {e : List Stmt} {t : TS} {p : Prop} (h : p → PSs X e t) : PSs X e (gS p t) := ⟨fun pins s σ H Q I q => (h q.1).run pins s σ H Q I q.2⟩

section
variable {X : Cx} {ρ : En} {e a b c : Expr} {es rest : List Expr} {x y : Rs} {d d1 d2 : PyData} {ds : List PyData} {pos : Pos} {p q : Bool}
/-- data: how a continuation of data is reached -/
theorem kdata {K : PySem.W.Frag} {Hs H : Hp} {Q : VK} {v : V} (k : ∀ v Hs' H' fp, Ext Hs H Hs' H' → Own K Hs' H' v (.da d) fp → fp.Nodup → (∀ a ∈ fp, H a = none ∧ Hs' a = none) → Q v H') {Hs' H' : Hp} (e : Ext Hs H Hs' H') (h : Dp K Hs' v d) : Q v H' :=
  k v Hs' H' [] e (.da h) (by simp) (by simp)
theorem tq_data {K : PySem.W.Frag} {σ : St} {H : Hp} {Q : VK} {Hs : Hp} (env : EnvQ K Hs H σ ρ) (k : ∀ v Hs' H', Ext Hs H Hs' H' → Dp K Hs' v d → Q v H') : tQ K ρ (.da d) σ H Q :=
  ⟨Hs, env, fun v Hs' H' fp e o _ _ => k v Hs' H' e (by cases o with | da o => exact o)⟩

/-! ### names, constants -/
theorem q_var {i : Nat} (h : PE X e (tVar i)) (hi : (ρ[i]?).bind Sv.tr = some (.da d) := by rfl) : QD X e ρ d :=
  pe_imp h fun σ H Q ⟨Hs, env, k⟩ => by
    obtain ⟨v, a, b⟩ := envQ_data env hi
    exact ⟨v, a, kdata k (.refl env.sub) b⟩
theorem q_cst {v : V} (h : PE X e (tC v)) (hd : ∀ H, Dp X.K H v d) : QD X e ρ d :=
  pe_imp h fun σ H Q ⟨Hs, env, k⟩ => kdata k (.refl env.sub) (hd _)
theorem q_int {i : Int} {j} : QD X (.Constant (.int i) j pos) ρ (.int i) := q_cst pe_int fun _ => .int i
theorem q_bool {i : Bool} {j} : QD X (.Constant (.bool i) j pos) ρ (.bool i) := q_cst pe_bl fun _ => .bl i
theorem q_none {j} : QD X (.Constant .none j pos) ρ .none := q_cst pe_non fun _ => .non
theorem q_str {i : Str} {j} : QD X (.Constant (.str i) j pos) ρ (.str i) := q_cst pe_str fun _ => .str i

/-! ### two values -/
theorem qop_imp {r : R2} (h : PE X e (tOp r (tQ X.K ρ (.da d1)) (tQ X.K ρ (.da d2))))
    (hr : ∀ v w Hs H Q, Dp X.K Hs v d1 → Dp X.K Hs w d2 → Same Hs H → (∀ u, Dp X.K Hs u d → Q u H) → r v w H Q) : QD X e ρ d :=
  pe_imp h fun σ H Q ⟨Hs, env, k⟩ => tq_data env fun v Hs1 H1 e1 dv => tq_data (envQ_ext e1 env) fun w Hs2 H2 e2 dw =>
    hr v w Hs2 H2 Q (dp_mono e2.data dv) dw e2.sub fun u hu => kdata k (e1.trans e2) hu
theorem q_bin {op : Operator} {r : R2} (ho : OpR X (binaryOp op) r) (ha : QD X a ρ d1) (hb : QD X b ρ d2)
    (hr : ∀ v w Hs H Q, Dp X.K Hs v d1 → Dp X.K Hs w d2 → Same Hs H → (∀ u, Dp X.K Hs u d → Q u H) → r v w H Q) : QD X (.BinOp a op b pos) ρ d :=
  qop_imp (pe_op ho ha hb) hr
theorem q_cmp {op : CmpOp} {r : R2} (ho : OpR X (compareOp op) r) (ha : QD X a ρ d1) (hb : QD X b ρ d2) (hm : behindInMarks op b = false)
    (hr : ∀ v w Hs H Q, Dp X.K Hs v d1 → Dp X.K Hs w d2 → Same Hs H → (∀ u, Dp X.K Hs u d → Q u H) → r v w H Q) : QD X (.Compare a [op] [b] pos) ρ d :=
  qop_imp (pe_cmpR ho ha hb hm) hr
theorem qt_cmp {c : Bool} {op : CmpOp} {r : R2} (ho : OpR X (compareOp op) r) (ha : QD X a ρ d1) (hb : QD X b ρ d2) (hm : behindInMarks op b = false)
    (hr : ∀ v w Hs H Q, Dp X.K Hs v d1 → Dp X.K Hs w d2 → Same Hs H → Q (.bl c) H → r v w H Q) : QT X (.Compare a [op] [b] pos) ρ c :=
  pt_imp (pt_cmpR ho ha hb hm) fun σ H Q ⟨Hs, env, k⟩ => tq_data env fun v Hs1 H1 e1 dv => tq_data (envQ_ext e1 env) fun w Hs2 H2 e2 dw =>
    hr v w Hs2 H2 _ (dp_mono e2.data dv) dw e2.sub ⟨c, rfl, k Hs2 H2 (e1.trans e2)⟩
section
variable {i j : Int}
theorem q_add (ha : QD X a ρ (.int i)) (hb : QD X b ρ (.int j)) : QD X (.BinOp a .Add b pos) ρ (.int (i + j)) :=
  q_bin op_add ha hb fun v w Hs H Q h1 h2 _ k => by rw [dp_int h1, dp_int h2]; exact ⟨i, j, rfl, rfl, k _ (.int _)⟩
theorem q_sub (ha : QD X a ρ (.int i)) (hb : QD X b ρ (.int j)) : QD X (.BinOp a .Sub b pos) ρ (.int (i - j)) :=
  q_bin op_sub ha hb fun v w Hs H Q h1 h2 _ k => by rw [dp_int h1, dp_int h2]; exact ⟨i, j, rfl, rfl, k _ (.int _)⟩
theorem q_mul (ha : QD X a ρ (.int i)) (hb : QD X b ρ (.int j)) (h : CMulW i j) : QD X (.BinOp a .Mult b pos) ρ (.int (i * j)) :=
  q_bin op_mulW ha hb fun v w Hs H Q h1 h2 _ k => by rw [dp_int h1, dp_int h2]; exact ⟨i, j, rfl, rfl, h, k _ (.int _)⟩
theorem q_div (ha : QD X a ρ (.int i)) (hb : QD X b ρ (.int j)) (h : CDivW i j) : QD X (.BinOp a .FloorDiv b pos) ρ (.int (i / j)) :=
  q_bin op_fdivW ha hb fun v w Hs H Q h1 h2 _ k => by rw [dp_int h1, dp_int h2]; exact ⟨i, j, rfl, rfl, h, k _ (.int _)⟩
theorem q_mod (ha : QD X a ρ (.int i)) (hb : QD X b ρ (.int j)) (h : 0 < j) : QD X (.BinOp a .Mod b pos) ρ (.int (i % j)) :=
  q_bin op_mod ha hb fun v w Hs H Q h1 h2 _ k => by rw [dp_int h1, dp_int h2]; exact ⟨i, j, rfl, rfl, h, k _ (.int _)⟩
theorem q_pow (ha : QD X a ρ (.int i)) (hb : QD X b ρ (.int j)) (h : 0 ≤ j ∧ j ≤ 1000000 ∧ i.natAbs < 2 ^ 64) : QD X (.BinOp a .Pow b pos) ρ (.int (i ^ j.toNat)) :=
  q_bin op_pow ha hb fun v w Hs H Q h1 h2 _ k => by rw [dp_int h1, dp_int h2]; exact ⟨i, j, rfl, rfl, h, k _ (.int _)⟩
theorem qt_lt (ha : QD X a ρ (.int i)) (hb : QD X b ρ (.int j)) : QT X (.Compare a [.Lt] [b] pos) ρ (decide (i < j)) :=
  qt_cmp op_lt ha hb (nomark _) fun v w Hs H Q h1 h2 _ k => by rw [dp_int h1, dp_int h2]; exact ⟨i, j, rfl, rfl, k⟩
theorem qt_le (ha : QD X a ρ (.int i)) (hb : QD X b ρ (.int j)) : QT X (.Compare a [.LtE] [b] pos) ρ (decide (i ≤ j)) :=
  qt_cmp op_le ha hb (nomark _) fun v w Hs H Q h1 h2 _ k => by rw [dp_int h1, dp_int h2]; exact ⟨i, j, rfl, rfl, k⟩
theorem qt_gt (ha : QD X a ρ (.int i)) (hb : QD X b ρ (.int j)) : QT X (.Compare a [.Gt] [b] pos) ρ (decide (j < i)) :=
  qt_cmp op_gt ha hb (nomark _) fun v w Hs H Q h1 h2 _ k => by rw [dp_int h1, dp_int h2]; exact ⟨i, j, rfl, rfl, k⟩
theorem qt_ge (ha : QD X a ρ (.int i)) (hb : QD X b ρ (.int j)) : QT X (.Compare a [.GtE] [b] pos) ρ (decide (j ≤ i)) :=
  qt_cmp op_ge ha hb (nomark _) fun v w Hs H Q h1 h2 _ k => by rw [dp_int h1, dp_int h2]; exact ⟨i, j, rfl, rfl, k⟩
theorem qt_eqI (ha : QD X a ρ (.int i)) (hb : QD X b ρ (.int j)) : QT X (.Compare a [.Eq] [b] pos) ρ (decide (i = j)) :=
  qt_cmp op_eq ha hb (nomark _) fun v w Hs H Q h1 h2 s k => by
    rw [dp_int h1, dp_int h2]; refine ⟨rfl, ?_⟩
    have : decide (V.int i = V.int j) = decide (i = j) := by simp
    rw [this]; exact k
theorem qt_neI (ha : QD X a ρ (.int i)) (hb : QD X b ρ (.int j)) : QT X (.Compare a [.NotEq] [b] pos) ρ (!decide (i = j)) :=
  qt_cmp op_ne ha hb (nomark _) fun v w Hs H Q h1 h2 s k => by
    rw [dp_int h1, dp_int h2]; refine ⟨rfl, ?_⟩
    have : decide (V.int i = V.int j) = decide (i = j) := by simp
    rw [this]; exact k
theorem q_lt (ha : QD X a ρ (.int i)) (hb : QD X b ρ (.int j)) : QD X (.Compare a [.Lt] [b] pos) ρ (.bool (decide (i < j))) :=
  q_cmp op_lt ha hb (nomark _) fun v w Hs H Q h1 h2 _ k => by rw [dp_int h1, dp_int h2]; exact ⟨i, j, rfl, rfl, k _ (.bl _)⟩
theorem q_le (ha : QD X a ρ (.int i)) (hb : QD X b ρ (.int j)) : QD X (.Compare a [.LtE] [b] pos) ρ (.bool (decide (i ≤ j))) :=
  q_cmp op_le ha hb (nomark _) fun v w Hs H Q h1 h2 _ k => by rw [dp_int h1, dp_int h2]; exact ⟨i, j, rfl, rfl, k _ (.bl _)⟩
theorem q_gt (ha : QD X a ρ (.int i)) (hb : QD X b ρ (.int j)) : QD X (.Compare a [.Gt] [b] pos) ρ (.bool (decide (j < i))) :=
  q_cmp op_gt ha hb (nomark _) fun v w Hs H Q h1 h2 _ k => by rw [dp_int h1, dp_int h2]; exact ⟨i, j, rfl, rfl, k _ (.bl _)⟩
theorem q_ge (ha : QD X a ρ (.int i)) (hb : QD X b ρ (.int j)) : QD X (.Compare a [.GtE] [b] pos) ρ (.bool (decide (j ≤ i))) :=
  q_cmp op_ge ha hb (nomark _) fun v w Hs H Q h1 h2 _ k => by rw [dp_int h1, dp_int h2]; exact ⟨i, j, rfl, rfl, k _ (.bl _)⟩
theorem q_neg (ha : QD X a ρ (.int i)) : QD X (.UnaryOp .USub a pos) ρ (.int (-i)) :=
  pe_imp (pe_un un_neg ha) fun σ H Q ⟨Hs, env, k⟩ => tq_data env fun v Hs1 H1 e1 dv => by
    have q := dp_int dv
    subst q
    exact ⟨i, rfl, kdata k e1 (.int _)⟩
end
/-- == and != of data -/
theorem q_eq {k : Nat} (hr : Room k X.A) (ha : QD X a ρ d1) (hb : QD X b ρ d2) (s1 : SeqAt.shaped d1 = true) (s2 : SeqAt.shaped d2 = true) : QD X (.Compare a [.Eq] [b] pos) ρ (.bool (PyData.eqv d1 d2)) :=
  q_cmp (op_eqD hr.units) ha hb (nomark _) fun v w Hs H Q h1 h2 s k => ⟨d1, d2, dp_mono s h1, dp_mono s h2, s1, s2, k _ (.bl _)⟩
theorem q_ne {k : Nat} (hr : Room k X.A) (ha : QD X a ρ d1) (hb : QD X b ρ d2) (s1 : SeqAt.shaped d1 = true) (s2 : SeqAt.shaped d2 = true) : QD X (.Compare a [.NotEq] [b] pos) ρ (.bool (!PyData.eqv d1 d2)) :=
  q_cmp (op_neD hr.units) ha hb (nomark _) fun v w Hs H Q h1 h2 s k => ⟨d1, d2, dp_mono s h1, dp_mono s h2, s1, s2, k _ (.bl _)⟩
theorem qt_eq {k : Nat} (hr : Room k X.A) (ha : QD X a ρ d1) (hb : QD X b ρ d2) (s1 : SeqAt.shaped d1 = true) (s2 : SeqAt.shaped d2 = true) : QT X (.Compare a [.Eq] [b] pos) ρ (PyData.eqv d1 d2) :=
  qt_cmp (op_eqD hr.units) ha hb (nomark _) fun v w Hs H Q h1 h2 s k => ⟨d1, d2, dp_mono s h1, dp_mono s h2, s1, s2, k⟩
theorem qt_ne {k : Nat} (hr : Room k X.A) (ha : QD X a ρ d1) (hb : QD X b ρ d2) (s1 : SeqAt.shaped d1 = true) (s2 : SeqAt.shaped d2 = true) : QT X (.Compare a [.NotEq] [b] pos) ρ (!PyData.eqv d1 d2) :=
  qt_cmp (op_neD hr.units) ha hb (nomark _) fun v w Hs H Q h1 h2 s k => ⟨d1, d2, dp_mono s h1, dp_mono s h2, s1, s2, k⟩

/-! ### tests -/
theorem qt_val (h : QD X e ρ (.bool p)) (he : ∀ whole, isTrue e X.env whole = (do let v ← whole; standAt e.pos; holding [v] (truthy v)) := by intro _; rfl) : QT X e ρ p :=
  pt_imp (pt_val h he) fun σ H Q ⟨Hs, env, k⟩ => tq_data env fun v Hs1 H1 e1 dv => ⟨p, dp_bool dv, k Hs1 H1 e1⟩
theorem qt_not (h : QT X a ρ p) : QT X (.UnaryOp .Not a pos) ρ (!p) :=
  pt_imp (pt_not h) fun σ H Q ⟨Hs, env, k⟩ => ⟨Hs, env, fun Hs1 H1 e1 => k Hs1 H1 e1⟩
theorem qw_and1 (h : QT X a ρ p) : QW X (.BoolOp .And [a] pos) ρ p := pw_and1 h
theorem qw_or1 (h : QT X a ρ p) : QW X (.BoolOp .Or [a] pos) ρ p := pw_or1 h
theorem qw_and (h : QT X a ρ p) (h2 : p = true → QW X (.BoolOp .And (b :: rest) pos) ρ q) : QW X (.BoolOp .And (a :: b :: rest) pos) ρ (p && q) :=
  pw_imp (pw_and h (pw_given h2)) fun σ H Q ⟨Hs, env, k⟩ => by
    refine ⟨Hs, env, fun Hs1 H1 e1 => ?_⟩
    cases p with
    | true => exact iteT ⟨rfl, Hs1, envQ_ext e1 env, fun Hs2 H2 e2 => k Hs2 H2 (e1.trans e2)⟩
    | false => exact iteF (k Hs1 H1 e1)
theorem qw_or (h : QT X a ρ p) (h2 : p = false → QW X (.BoolOp .Or (b :: rest) pos) ρ q) : QW X (.BoolOp .Or (a :: b :: rest) pos) ρ (p || q) :=
  pw_imp (pw_or h (pw_given h2)) fun σ H Q ⟨Hs, env, k⟩ => by
    refine ⟨Hs, env, fun Hs1 H1 e1 => ?_⟩
    cases p with
    | false => exact iteF ⟨rfl, Hs1, envQ_ext e1 env, fun Hs2 H2 e2 => k Hs2 H2 (e1.trans e2)⟩
    | true => exact iteT (k Hs1 H1 e1)
theorem qt_w (h : QW X e ρ p) : QT X e ρ p := h.pt
theorem q_one {op} (h : QV X a ρ x) : QV X (.BoolOp op [a] pos) ρ x := pe_one h
theorem q_and (h : QD X a ρ (.bool p)) (h2 : p = true → QD X (.BoolOp .And (b :: rest) pos) ρ (.bool q)) : QD X (.BoolOp .And (a :: b :: rest) pos) ρ (.bool (p && q)) :=
  pe_imp (pe_and h (pe_given h2)) fun σ H Q ⟨Hs, env, k⟩ => tq_data env fun v Hs1 H1 e1 dv => by
    refine ⟨p, dp_bool dv, ?_⟩
    cases p with
    | true => exact iteT ⟨rfl, tq_data (envQ_ext e1 env) fun v Hs2 H2 e2 dw => kdata k (e1.trans e2) dw⟩
    | false => exact iteF (kdata k e1 (.bl _))
theorem q_or (h : QD X a ρ (.bool p)) (h2 : p = false → QD X (.BoolOp .Or (b :: rest) pos) ρ (.bool q)) : QD X (.BoolOp .Or (a :: b :: rest) pos) ρ (.bool (p || q)) :=
  pe_imp (pe_or h (pe_given h2)) fun σ H Q ⟨Hs, env, k⟩ => tq_data env fun v Hs1 H1 e1 dv => by
    refine ⟨p, dp_bool dv, ?_⟩
    cases p with
    | false => exact iteF ⟨rfl, tq_data (envQ_ext e1 env) fun v Hs2 H2 e2 dw => kdata k (e1.trans e2) dw⟩
    | true => exact iteT (kdata k e1 (.bl _))
theorem q_not (h : QD X a ρ (.bool p)) : QD X (.UnaryOp .Not a pos) ρ (.bool (!p)) :=
  pe_imp (pe_not h) fun σ H Q ⟨Hs, env, k⟩ => tq_data env fun v Hs1 H1 e1 dv => ⟨p, dp_bool dv, kdata k e1 (.bl _)⟩
theorem q_ifExp (hc : QT X c ρ p) (h1 : p = true → QV X a ρ x) (h2 : p = false → QV X b ρ x) : QV X (.IfExp c a b pos) ρ x :=
  pe_imp (pe_ifExp hc (pe_given h1) (pe_given h2)) fun σ H Q ⟨Hs, env, k⟩ => by
    refine ⟨Hs, env, fun Hs1 H1 e1 => ?_⟩
    have k2 : ∀ v Hs' H' fp, Ext Hs1 H1 Hs' H' → Own X.K Hs' H' v x fp → fp.Nodup → (∀ a ∈ fp, H1 a = none ∧ Hs' a = none) → Q v H' := fun v Hs2 H2 fp e2 o n f => k v Hs2 H2 fp (e1.trans e2) o n fun a m => ⟨e1.all.free (f a m).1, (f a m).2⟩
    cases p with
    | true => exact iteT ⟨rfl, Hs1, envQ_ext e1 env, k2⟩
    | false => exact iteF ⟨rfl, Hs1, envQ_ext e1 env, k2⟩
def isN : PyData → Bool
  | .none => true
  | _ => false
theorem dp_non_iff {K : PySem.W.Frag} {H : Hp} {v : V} (h : Dp K H v d) : decide (v = .non) = isN d := by
  cases h <;> simp [isN]
theorem q_isN {j} {pp : Pos} (ha : QD X a ρ d) : QD X (.Compare a [.Is] [.Constant .none j pp] pos) ρ (.bool (isN d)) :=
  pe_imp (pe_cmp (pc_isN ha) rfl) fun σ H Q ⟨Hs, env, k⟩ => tq_data env fun v Hs1 H1 e1 dv => by
    have z := dp_non_iff dv
    simp only [z]
    exact kdata k e1 (.bl _)
theorem q_notN {j} {pp : Pos} (ha : QD X a ρ d) : QD X (.Compare a [.IsNot] [.Constant .none j pp] pos) ρ (.bool (!isN d)) :=
  pe_imp (pe_cmp (pc_notN ha) rfl) fun σ H Q ⟨Hs, env, k⟩ => tq_data env fun v Hs1 H1 e1 dv => by
    have z := dp_non_iff dv
    simp only [z]
    exact kdata k e1 (.bl _)
theorem qt_isN {j} {pp : Pos} (ha : QD X a ρ d) : QT X (.Compare a [.Is] [.Constant .none j pp] pos) ρ (isN d) :=
  pt_imp (pt_cmp (pc_isN ha) rfl) fun σ H Q ⟨Hs, env, k⟩ => tq_data env fun v Hs1 H1 e1 dv => by
    refine ⟨_, rfl, ?_⟩
    rw [dp_non_iff dv]
    exact k Hs1 H1 e1
theorem qt_notN {j} {pp : Pos} (ha : QD X a ρ d) : QT X (.Compare a [.IsNot] [.Constant .none j pp] pos) ρ (!isN d) :=
  pt_imp (pt_cmp (pc_notN ha) rfl) fun σ H Q ⟨Hs, env, k⟩ => tq_data env fun v Hs1 H1 e1 dv => by
    refine ⟨_, rfl, ?_⟩
    rw [dp_non_iff dv]
    exact k Hs1 H1 e1

/-! ### arguments, displays, items -/
theorem qs_nil : QDs X [] ρ [] := pa_imp pa_nil fun σ H Q ⟨Hs, env, k⟩ => k [] Hs H (.refl env.sub) .nil
theorem qs_cons (h1 : QD X e ρ d) (h2 : QDs X es ρ ds) (hs : starEach (e :: es) X.env = (false, eval e X.env) :: starEach es X.env := by rfl) : QDs X (e :: es) ρ (d :: ds) :=
  pa_imp (pa_cons h1 h2 hs) fun σ H Q ⟨Hs, env, k⟩ => tq_data env fun v Hs1 H1 e1 dv => by
    refine ⟨Hs1, envQ_ext e1 env, fun vs Hs2 H2 e2 dvs => ?_⟩
    exact k (v :: vs) Hs2 H2 (e1.trans e2) (.cons (dp_mono e2.data dv) dvs)
theorem q_tup {x1} (h : QDs X es ρ ds) (hz : Nat.ble ds.length 1000 = true := by rfl) : QD X (.Tuple es x1 pos) ρ (.tuple ds) :=
  pe_imp (pe_tup h) fun σ H Q ⟨Hs, env, k⟩ => by
    refine ⟨Hs, env, fun vs Hs1 H1 e1 dvs => ⟨by rw [dpAll_length dvs]; exact Nat.le_trans (Nat.le_of_ble_eq_true hz) (by decide), fun p np => ?_⟩⟩
    have e2 : Ext Hs1 H1 (upd Hs1 p (.tup vs)) (upd H1 p (.tup vs)) := Ext.grow e1.sub np
    exact kdata k (e1.trans e2) (.tup (SqT.of upd_same) (dpAll_mono e2.data dvs))
/-- a list that stays as it is -/
theorem q_list (h : QDs X es ρ ds) (hz : Nat.ble ds.length 1000 = true := by rfl) : QD X (.List es pos) ρ (.list ds) :=
  pe_imp (pe_lst h) fun σ H Q ⟨Hs, env, k⟩ => by
    refine ⟨Hs, env, fun vs Hs1 H1 e1 dvs => ⟨by rw [dpAll_length dvs]; exact Nat.le_trans (Nat.le_of_ble_eq_true hz) (by decide), fun p np => ?_⟩⟩
    have e2 : Ext Hs1 H1 (upd Hs1 p (.lst vs)) (upd H1 p (.lst vs)) := Ext.grow e1.sub np
    exact kdata k (e1.trans e2) (.lst (SqL.of upd_same) (dpAll_mono e2.data dvs))
/-- a list that will change -/
theorem q_listO (h : QDs X es ρ ds) (hz : Nat.ble ds.length 1000 = true := by rfl) : QV X (.List es pos) ρ (.lst ds) :=
  pe_imp (pe_lst h) fun σ H Q ⟨Hs, env, k⟩ => by
    refine ⟨Hs, env, fun vs Hs1 H1 e1 dvs => ⟨by rw [dpAll_length dvs]; exact Nat.le_trans (Nat.le_of_ble_eq_true hz) (by decide), fun p np => ?_⟩⟩
    have e2 : Ext Hs1 H1 Hs1 (upd H1 p (.lst vs)) := Ext.more e1.sub np
    exact k _ _ _ [p] (e1.trans e2) (.lst upd_same dvs) (by simp) fun a m => by
      have z : a = p := by simpa using m
      subst z
      exact ⟨e1.all.free np, e1.sub.free np⟩
/-- a list that was made to change is data from here on -/
theorem q_freeze (h : QV X e ρ (.lst ds)) : QD X e ρ (.list ds) :=
  pe_imp h fun σ H Q ⟨Hs, env, k⟩ => by
    refine ⟨Hs, env, fun v Hs1 H1 fp e1 o n f => ?_⟩
    cases o with
    | lst ha q =>
      rename_i a xs
      have fa := f a (by simp)
      have s2 : Same Hs1 (upd Hs1 a (.lst xs)) := same_upd fa.2
      refine kdata k (Hs' := upd Hs1 a (.lst xs)) ⟨e1.data.trans s2, e1.all, fun b u z => ?_, fun b u z => ?_⟩ (.lst (SqL.of upd_same) (dpAll_mono s2 q))
      · by_cases hb : b = a
        · subst hb; rw [upd_same] at z; cases z; exact ha
        · rw [upd_ne hb] at z; exact e1.sub b u z
      · by_cases hb : b = a
        · subst hb; exact .inr fa.1
        · rw [upd_ne hb] at z; exact e1.new b u z
theorem atI_dp {K : PySem.W.Frag} {H : Hp} {xs : List V} {ds : List PyData} {i : Int} (h : DpAll K H xs ds) (e : atI ds i = some d) : ∃ v, atI xs i = some v ∧ Dp K H v d := by
  unfold atI at e ⊢
  rw [dpAll_length h]
  cases q : ixN ds.length i with
  | none => rw [q] at e; cases e
  | some j =>
    rw [q] at e
    exact dpAll_get h e
theorem q_itemT {i : Int} (ha : QD X a ρ (.tuple ds)) (hb : QD X b ρ (.int i)) (he : atI ds i = some d) (hs : PlainIx b := by exact (fun _ _ => rfl)) : QD X (.Subscript a b pos) ρ d :=
  qop_imp (pe_ix ix_tup ha hb hs) fun v w Hs H Q h1 h2 s k => by
    obtain ⟨p, xs, rfl, q, r⟩ := dp_tup h1
    obtain ⟨u, hu, du⟩ := atI_dp r he
    rw [dp_int h2]
    exact ⟨p, xs, i, u, rfl, rfl, sqT_mono s q, hu, k u du⟩
theorem q_itemL {i : Int} (ha : QD X a ρ (.list ds)) (hb : QD X b ρ (.int i)) (he : atI ds i = some d) (hs : PlainIx b := by exact (fun _ _ => rfl)) : QD X (.Subscript a b pos) ρ d :=
  qop_imp (pe_ix ix_list ha hb hs) fun v w Hs H Q h1 h2 s k => by
    obtain ⟨p, xs, rfl, q, r⟩ := dp_lst h1
    obtain ⟨u, hu, du⟩ := atI_dp r he
    rw [dp_int h2]
    exact ⟨p, xs, i, u, rfl, rfl, s.seq q, hu, k u du⟩
theorem q_itemS {i : Int} {z : Str} {cd : Nat} (ha : QD X a ρ (.str z)) (hb : QD X b ρ (.int i)) (hz : z.length ≤ sizeLine) (he : atI z.cps.toList i = some cd) (hs : PlainIx b := by exact (fun _ _ => rfl)) : QD X (.Subscript a b pos) ρ (.str ⟨#[cd]⟩) :=
  qop_imp (pe_ix ix_str ha hb hs) fun v w Hs H Q h1 h2 s k => by
    rw [dp_int h2, dp_str h1]
    exact ⟨z, i, cd, rfl, rfl, hz, he, k _ (.str _)⟩

/-! ### built-ins upon data, whose answer is a scalar -/
theorem q_blt {f : Str} {id : String} {p : Pos} {r : List V → Hp → VK → Prop} (hc : CallR X (.builtin id) r) (hg : Gl X f) (hm : X.mg f = none) (hv : bootBuiltins f = some (.builtin id)) (ha : QDs X (e :: es) ρ ds)
    (hr : ∀ vs Hs H Q, DpAll X.K Hs vs ds → Same Hs H → (∀ u, Dp X.K Hs u d → Q u H) → r vs H Q)
    (hn : f ≠ "__name__" := by decide) (hdb : (f == ("__debug__" : Str)) = false := by decide) (he : starEach (e :: es) X.env = (false, eval e X.env) :: starEach es X.env := by rfl) (hpl : (backTo pos (starEach es X.env)).any (·.1) = false := by rfl) :
    QD X (.Call (.Name f p) (e :: es) [] pos) ρ d :=
  pe_imp (pe_callB hc hg hm hv ha hn hdb he hpl) fun σ H Q ⟨Hs, env, k⟩ => by
    refine ⟨Hs, env, fun vs Hs1 H1 e1 dvs => ?_⟩
    exact hr vs Hs1 H1 Q dvs e1.sub fun u hu => kdata k e1 hu
theorem dpAll_1 {K : PySem.W.Frag} {H : Hp} {vs : List V} (h : DpAll K H vs [d]) : ∃ v, vs = [v] ∧ Dp K H v d := by
  cases h with | cons a t => cases t; exact ⟨_, rfl, a⟩
theorem dpAll_2 {K : PySem.W.Frag} {H : Hp} {vs : List V} (h : DpAll K H vs [d1, d2]) : ∃ v w, vs = [v, w] ∧ Dp K H v d1 ∧ Dp K H w d2 := by
  cases h with | cons a t => cases t with | cons b t => cases t; exact ⟨_, _, rfl, a, b⟩
theorem q_abs {i : Int} {p : Pos} (hm : X.mg "abs" = none) (ha : QD X e ρ (.int i)) (hg : Gl X "abs" := by rfl) (he : starEach (e :: []) X.env = (false, eval e X.env) :: starEach [] X.env := by rfl) (hpl : (backTo pos (starEach [] X.env)).any (·.1) = false := by rfl) :
    QD X (.Call (.Name "abs" p) [e] [] pos) ρ (.int i.natAbs) :=
  q_blt call_abs hg hm (by decide +kernel) (qs_cons ha qs_nil he) (fun vs Hs H Q h s k => by
    obtain ⟨v, rfl, q⟩ := dpAll_1 h
    rw [dp_int q]
    refine ⟨i, rfl, ?_⟩
    have z : (if i < 0 then -i else i) = (i.natAbs : Int) := by split <;> omega
    rw [z]
    exact k _ (.int _)) (by decide) (by decide) he hpl
theorem q_lenL {p : Pos} (hm : X.mg "len" = none) (ha : QD X e ρ (.list ds)) (hg : Gl X "len" := by rfl) (he : starEach (e :: []) X.env = (false, eval e X.env) :: starEach [] X.env := by rfl) (hpl : (backTo pos (starEach [] X.env)).any (·.1) = false := by rfl) :
    QD X (.Call (.Name "len" p) [e] [] pos) ρ (.int ds.length) :=
  q_blt call_len_seq hg hm PySem.boot_len (qs_cons ha qs_nil he) (fun vs Hs H Q h s k => by
    obtain ⟨v, rfl, q⟩ := dpAll_1 h
    obtain ⟨a, xs, rfl, q1, q2⟩ := dp_lst q
    exact ⟨a, xs, rfl, .inl (s.seq q1), by rw [dpAll_length q2]; exact k _ (.int _)⟩) (by decide) (by decide) he hpl
theorem q_lenT {p : Pos} (hm : X.mg "len" = none) (ha : QD X e ρ (.tuple ds)) (hg : Gl X "len" := by rfl) (he : starEach (e :: []) X.env = (false, eval e X.env) :: starEach [] X.env := by rfl) (hpl : (backTo pos (starEach [] X.env)).any (·.1) = false := by rfl) :
    QD X (.Call (.Name "len" p) [e] [] pos) ρ (.int ds.length) :=
  q_blt call_len_seq hg hm PySem.boot_len (qs_cons ha qs_nil he) (fun vs Hs H Q h s k => by
    obtain ⟨v, rfl, q⟩ := dpAll_1 h
    obtain ⟨a, xs, rfl, q1, q2⟩ := dp_tup q
    exact ⟨a, xs, rfl, .inr (sqT_mono s q1), by rw [dpAll_length q2]; exact k _ (.int _)⟩) (by decide) (by decide) he hpl
theorem q_lenS {p : Pos} {z : Str} (hm : X.mg "len" = none) (ha : QD X e ρ (.str z)) (hz : z.length ≤ sizeLine) (hg : Gl X "len" := by rfl) (he : starEach (e :: []) X.env = (false, eval e X.env) :: starEach [] X.env := by rfl) (hpl : (backTo pos (starEach [] X.env)).any (·.1) = false := by rfl) :
    QD X (.Call (.Name "len" p) [e] [] pos) ρ (.int z.length) :=
  q_blt call_len_str hg hm PySem.boot_len (qs_cons ha qs_nil he) (fun vs Hs H Q h s k => by
    obtain ⟨v, rfl, q⟩ := dpAll_1 h
    rw [dp_str q]
    exact ⟨z, rfl, hz, k _ (.int _)⟩) (by decide) (by decide) he hpl
end
end Bg

namespace Bg
open PySem L2

/-! ### things that are read: data, things that stand, things just made -/
inductive OwnQ (K : PySem.W.Frag) (Hs H : Hp) : List V → List Rs → Prop
  | nil : OwnQ K Hs H [] []
  | cons {v : V} {r : Rs} {fp : List Addr} {vs : List V} {rs : List Rs} : Own K Hs H v r fp → OwnQ K Hs H vs rs → OwnQ K Hs H (v :: vs) (r :: rs)
theorem ownQ_ext {K : PySem.W.Frag} {Hs H Hs' H' : Hp} (e : Ext Hs H Hs' H') : ∀ {vs : List V} {rs : List Rs}, OwnQ K Hs H vs rs → OwnQ K Hs' H' vs rs
  | _, _, .nil => .nil
  | _, _, .cons h t => .cons (own_mono e.data h fun a _ u z => e.all a u z) (ownQ_ext e t)
theorem ownQ_len {K : PySem.W.Frag} {Hs H : Hp} : ∀ {vs : List V} {rs : List Rs}, OwnQ K Hs H vs rs → vs.length = rs.length
  | _, _, .nil => rfl
  | _, _, .cons h t => by simp [ownQ_len t]
theorem ownQ_get {K : PySem.W.Frag} {Hs H : Hp} : ∀ {vs : List V} {rs : List Rs} {i : Nat} {r : Rs}, OwnQ K Hs H vs rs → rs[i]? = some r → ∃ v fp, vs[i]? = some v ∧ Own K Hs H v r fp
  | _, _, _, _, .nil, e => by simp at e
  | _, _, 0, _, .cons h t, e => by simp at e; subst e; exact ⟨_, _, rfl, h⟩
  | _, _, i + 1, _, .cons h t, e => by simpa using ownQ_get (i := i) t (by simpa using e)
theorem ownQ_data {K : PySem.W.Frag} {Hs H : Hp} : ∀ {vs : List V} {ds : List PyData}, DpAll K Hs vs ds → OwnQ K Hs H vs (ds.map .da)
  | _, _, .nil => .nil
  | _, _, .cons h t => .cons (.da h) (ownQ_data t)
def tA (K : PySem.W.Frag) (ρ : En) (r : Rs) : TE := fun σ H Q => ∃ Hs, EnvQ K Hs H σ ρ ∧ ∀ v Hs' H' fp, Ext Hs H Hs' H' → Own K Hs' H' v r fp → Q v H'
def tAs (K : PySem.W.Frag) (ρ : En) (rs : List Rs) : TA := fun σ H Q => ∃ Hs, EnvQ K Hs H σ ρ ∧ ∀ vs Hs' H', Ext Hs H Hs' H' → OwnQ K Hs' H' vs rs → Q vs H'
def QA (X : Cx) (e : Expr) (ρ : En) (r : Rs) : Prop := PE X e (tA X.K ρ r)
def QAs (X : Cx) (es : List Expr) (ρ : En) (rs : List Rs) : Prop := PA X es (tAs X.K ρ rs)
section
variable {X : Cx} {ρ : En} {e a b c : Expr} {es rest : List Expr} {x y r : Rs} {rs : List Rs} {d d1 d2 : PyData} {ds : List PyData} {pos : Pos} {p q : Bool}
theorem qa_v (h : QV X e ρ x) : QA X e ρ x := pe_imp h fun σ H Q ⟨Hs, env, k⟩ => ⟨Hs, env, fun v Hs' H' fp e o _ _ => k v Hs' H' fp e o⟩
theorem qd_a (h : QA X e ρ (.da d)) : QD X e ρ d := pe_imp h fun σ H Q ⟨Hs, env, k⟩ => ⟨Hs, env, fun v Hs' H' fp e o => kdata k e (by cases o with | da o => exact o)⟩
theorem qa_var {i : Nat} (h : PE X e (tVar i)) (hi : (ρ[i]?).bind Sv.tr = some r := by rfl) : QA X e ρ r :=
  pe_imp h fun σ H Q ⟨Hs, env, k⟩ => by
    obtain ⟨v, fp, a, o⟩ := envQ_tree env hi
    exact ⟨v, a, k v Hs H fp (.refl env.sub) o⟩
theorem qas_nil : QAs X [] ρ [] := pa_imp pa_nil fun σ H Q ⟨Hs, env, k⟩ => k [] Hs H (.refl env.sub) .nil
theorem qas_cons (h1 : QA X e ρ r) (h2 : QAs X es ρ rs) (hs : starEach (e :: es) X.env = (false, eval e X.env) :: starEach es X.env := by rfl) : QAs X (e :: es) ρ (r :: rs) :=
  pa_imp (pa_cons h1 h2 hs) fun σ H Q ⟨Hs, env, k⟩ => by
    refine ⟨Hs, env, fun v Hs1 H1 fp e1 o => ⟨Hs1, envQ_ext e1 env, fun vs Hs2 H2 e2 os => ?_⟩⟩
    exact k (v :: vs) Hs2 H2 (e1.trans e2) (.cons (own_mono e2.data o fun a _ u z => e2.all a u z) os)
/-- an attribute of a thing of an own class -/
theorem ownF_get {K : PySem.W.Frag} {Hs H : Hp} {f : Str} : ∀ {fv : List (Str × V)} {fs : List (Str × Rs)} {fp : List Addr}, OwnF K Hs H fv fs fp → fs.lookup f = some r → ∃ v fq, fv.lookup f = some v ∧ Own K Hs H v r fq
  | _, _, _, .nil, e => by simp at e
  | _, _, _, .cons (k := k) h t, e => by
    rw [List.lookup_cons] at e ⊢
    cases z : (f == k) with
    | true => rw [z] at e; simp at e; subst e; exact ⟨_, _, by simp, h⟩
    | false => rw [z] at e; simpa using ownF_get t (by simpa using e)
theorem ownF_none {K : PySem.W.Frag} {Hs H : Hp} {f : Str} : ∀ {fv : List (Str × V)} {fs : List (Str × Rs)} {fp : List Addr}, OwnF K Hs H fv fs fp → fs.lookup f = none → fv.lookup f = none
  | _, _, _, .nil, e => by simp
  | _, _, _, .cons (k := k) h t, e => by
    rw [List.lookup_cons] at e ⊢
    cases z : (f == k) with
    | true => rw [z] at e; simp at e
    | false => rw [z] at e; simpa using ownF_none t (by simpa using e)
theorem qa_attr {C : Addr} {f : Str} {fs : List (Str × Rs)} (cl : Cls X.K C) (na : NoAttr X.K C f) (h : QA X a ρ (.ins C fs)) (hf : fs.lookup f = some r := by rfl) (hb : attributeBase a f X.env (eval a X.env) = eval a X.env := by rfl) : QA X (.Attribute a f pos) ρ r :=
  pe_imp (pe_fld h hb) fun σ H Q ⟨Hs, env, k⟩ => by
    refine ⟨Hs, env, fun v Hs1 H1 fp e1 o => ?_⟩
    cases o with
    | ins h1 h2 =>
      obtain ⟨v, fq, l, o⟩ := ownF_get h2 hf
      exact ⟨_, _, _, _, _, rfl, h1, cl, na, l, k v Hs1 H1 fq e1 o⟩
/-- lists that may change, read -/
theorem q_itemO {i : Int} (ha : QA X a ρ (.lst ds)) (hb : QD X b ρ (.int i)) (he : atI ds i = some d) (hs : PlainIx b := by exact (fun _ _ => rfl)) : QD X (.Subscript a b pos) ρ d :=
  pe_imp (pe_ix ix_list ha hb hs) fun σ H Q ⟨Hs, env, k⟩ => by
    refine ⟨Hs, env, fun v Hs1 H1 fp e1 o => tq_data (envQ_ext e1 env) fun w Hs2 H2 e2 dw => ?_⟩
    cases o with
    | lst ha r =>
      obtain ⟨u, hu, du⟩ := atI_dp r he
      rw [dp_int dw]
      exact ⟨_, _, i, u, rfl, rfl, SqL.of (e2.all _ _ ha), hu, kdata k (e1.trans e2) (dp_mono e2.data du)⟩
theorem q_lenO {p : Pos} (hm : X.mg "len" = none) (ha : QA X e ρ (.lst ds)) (hg : Gl X "len" := by rfl) (he : starEach (e :: []) X.env = (false, eval e X.env) :: starEach [] X.env := by rfl) (hpl : (backTo pos (starEach [] X.env)).any (·.1) = false := by rfl) :
    QD X (.Call (.Name "len" p) [e] [] pos) ρ (.int ds.length) :=
  pe_imp (pe_callB call_len_seq hg hm PySem.boot_len (qas_cons ha qas_nil he) (by decide) (by decide) he hpl) fun σ H Q ⟨Hs, env, k⟩ => by
    refine ⟨Hs, env, fun vs Hs1 H1 e1 os => ?_⟩
    cases os with
    | cons o t =>
      cases t
      cases o with
      | lst ha r => exact ⟨_, _, rfl, .inl (SqL.of ha), by rw [dpAll_length r]; exact kdata k e1 (.int _)⟩
end

/-! ### defs that leave all that stood as it was -/
def spQ (K : PySem.W.Frag) (F : List Rs → Rs → Prop) : Sp := fun vs H Q _ => ∃ Hs as x, Same Hs H ∧ OwnQ K Hs H vs as ∧ F as x ∧ ∀ v Hs' H' fp, Ext Hs H Hs' H' → Own K Hs' H' v x fp → fp.Nodup → (∀ a ∈ fp, H a = none ∧ Hs' a = none) → Q v H'
/-- the def of the text st stands under its name -/
def Df (K : PySem.W.Frag) (mg : Str → Option Value) (x : Str) (st : Stmt) : Prop := ∃ f fd, mg x = some (.ref f) ∧ Fun K x x st f fd
structure FnQ (P : Program) (w : World) (K : PySem.W.Frag) (mg : Str → Option Value) (base : Heap) (x : Str) (k : Nat) (F : List Rs → Rs → Prop) : Prop where
  ex : ∃ f fd ps, mg x = some (.ref f) ∧ PySem.W.keepIn K (.ref f) = true ∧ Binds K fd ps [] ∧ FnOk P w K mg base CX0 k f fd ps (spQ K F)
theorem FnQ.mono {P : Program} {w : World} {K : PySem.W.Frag} {mg : Str → Option Value} {base : Heap} {x : Str} {j k : Nat} {F F' : List Rs → Rs → Prop} (h : FnQ P w K mg base x j F) (hj : j ≤ k) (hF : ∀ ds d, F' ds d → F ds d) : FnQ P w K mg base x k F' := by
  obtain ⟨f, fd, ps, a, b, c, G⟩ := h.ex
  refine ⟨f, fd, ps, a, b, c, (G.mono hj).imp fun vs H Q E h => ?_⟩
  obtain ⟨Hs, as, x, h1, h2, h3, h4⟩ := h
  exact ⟨Hs, as, x, h1, h2, hF _ _ h3, h4⟩
section
variable {X : Cx} {ρ : En} {e a b c : Expr} {es rest : List Expr} {x y r : Rs} {rs : List Rs} {d d1 d2 : PyData} {ds : List PyData} {pos : Pos} {p q : Bool}
theorem q_call {f : Str} {p : Pos} {j k : Nat} {F : List Rs → Rs → Prop} (G : FnQ X.prog X.w X.K X.mg X.base f j F) (hr : Room k X.A) (ha : QAs X (e :: es) ρ rs) (hF : F rs x) (hj : j ≤ k := by decide) (hg : Gl X f := by rfl)
    (hdb : (f == ("__debug__" : Str)) = false := by decide) (he : starEach (e :: es) X.env = (false, eval e X.env) :: starEach es X.env := by rfl) (hpl : (backTo pos (starEach es X.env)).any (·.1) = false := by rfl) :
    QV X (.Call (.Name f p) (e :: es) [] pos) ρ x := by
  obtain ⟨g, fd, ps, hm, hk, hb, G⟩ := G.ex
  refine pe_imp (pe_call G (hr.mono hj) hg hm hk hb .nil pass0 ha hdb he hpl) fun σ H Q ⟨Hs, env, k⟩ => ?_
  refine ⟨Hs, env, fun vs Hs1 H1 e1 os => ?_⟩
  refine ⟨Hs1, rs, x, e1.sub, by rw [List.append_nil]; exact os, hF, fun v Hs2 H2 fp e2 o n f => ?_⟩
  exact k v Hs2 H2 fp (e1.trans e2) o n fun a m => ⟨e1.all.free (f a m).1, (f a m).2⟩
end

/-! ### statements -/
inductive Out where
  | nx (ρ : En) | bk (ρ : En) | ct (ρ : En) | rt (x : Rs) (ps : List Rs) | ex (C : Addr) (ps : List Rs)
def sel : List Bool → List VR → List VR
  | true :: m, x :: l => x :: sel m l
  | false :: m, _ :: l => sel m l
  | _, _ => []
section
variable (K : PySem.W.Frag) (mk : List Bool) (E : XK)
def tPost (o : Out) (D : Ends) (g : Gh) (Hs : Hp) : Prop := match o with
  | .nx ρ' => ∀ σ' Hs' H', Same Hs Hs' → EnvAt K mk g Hs' H' [] σ' ρ' → D.nx σ' H'
  | .bk ρ' => ∀ σ' Hs' H', Same Hs Hs' → EnvAt K mk g Hs' H' [] σ' ρ' → D.bk σ' H'
  | .ct ρ' => ∀ σ' Hs' H', Same Hs Hs' → EnvAt K mk g Hs' H' [] σ' ρ' → D.ct σ' H'
  | .rt x ps => ∀ v Hs' H', Same Hs Hs' → St9 K g Hs' H' ((v, x) :: sel mk (g.vs0.zip ps)) → D.rt v H'
  | .ex C ps => ∀ Hs' H', Same Hs Hs' → St9 K g Hs' H' (sel mk (g.vs0.zip ps)) → E (.ref C) none H'
def tSt (ρ : En) (o : Out) : TS := fun D σ H => ∃ g Hs, EnvAt K mk g Hs H [] σ ρ ∧ tPost K mk E o D g Hs
end
theorem tPost_later {K : PySem.W.Frag} {mk : List Bool} {E : XK} {o : Out} {D : Ends} {g : Gh} {Hs Hs1 : Hp} (s : Same Hs Hs1) (k : tPost K mk E o D g Hs) : tPost K mk E o D g Hs1 := by
  cases o with
  | nx ρ' => exact fun σ' Hs' H' s' => k σ' Hs' H' (s.trans s')
  | bk ρ' => exact fun σ' Hs' H' s' => k σ' Hs' H' (s.trans s')
  | ct ρ' => exact fun σ' Hs' H' s' => k σ' Hs' H' (s.trans s')
  | rt x ps => exact fun σ' Hs' H' s' => k σ' Hs' H' (s.trans s')
  | ex x ps => exact fun Hs' H' s' => k Hs' H' (s.trans s')
def EX (X : Cx) (mk : List Bool) (E : XK) (st : Stmt) (ρ : En) (o : Out) : Prop := PS X st (tSt X.K mk E ρ o)
def EXs (X : Cx) (mk : List Bool) (E : XK) (st : List Stmt) (ρ : En) (o : Out) : Prop := PSs X st (tSt X.K mk E ρ o)
def Out.stops : Out → Prop
  | .nx _ => False
  | _ => True

section
variable {X : Cx} {mk : List Bool} {E : XK} {ρ ρ1 ρ2 ρ3 : En} {e a b c : Expr} {es : List Expr} {x y : Rs} {d d1 d2 : PyData} {ds : List PyData} {pos : Pos} {p q : Bool} {st : Stmt} {rest body els : List Stmt} {o : Out}
theorem exs_nox (h : EXs X.nox mk E rest ρ o) : EXs X mk E rest ρ o := PSs.nox h
theorem ex_nox (h : EX X.nox mk E st ρ o) : EX X mk E st ρ o := ⟨fun pins s σ H D I hw =>
  wpAny_mono (h.run pins s σ H D (I.wish _) hw) (fun _ _ q => q.unwish) fun _ _ z => False.elim z⟩
theorem exs_nil : EXs X mk E [] ρ (.nx ρ) := pss_imp pss_nil fun D σ H ⟨g, Hs, env, k⟩ => k σ Hs H (.refl _) env
theorem exs_cons (h1 : EX X mk E st ρ (.nx ρ1)) (h2 : EXs X mk E rest ρ1 o) : EXs X mk E (st :: rest) ρ o :=
  pss_imp (pss_cons h1 h2) fun D σ H ⟨g, Hs, env, k⟩ => ⟨g, Hs, env, fun σ' Hs' H' s' e' => ⟨g, Hs', e', tPost_later s' k⟩⟩
theorem exs_stop (h1 : EX X mk E st ρ o) (hs : o.stops := by trivial) : EXs X mk E (st :: rest) ρ o :=
  pss_imp (pss_cons h1 (pss_never (sts := rest))) fun D σ H ⟨g, Hs, env, k⟩ => by
    cases o with
    | nx => exact hs.elim
    | bk => exact ⟨g, Hs, env, k⟩
    | ct => exact ⟨g, Hs, env, k⟩
    | rt => exact ⟨g, Hs, env, k⟩
    | ex => exact ⟨g, Hs, env, k⟩
theorem exs_one (h1 : EX X mk E st ρ o) : EXs X mk E [st] ρ o := pss_one h1
/-- a block, then the rest: the block stops, or goes on -/
def Seq (X : Cx) (mk : List Bool) (E : XK) (body rest : List Stmt) (ρ : En) (o : Out) : Prop := (EXs X mk E body ρ o ∧ o.stops) ∨ ∃ ρ1, EXs X mk E body ρ (.nx ρ1) ∧ EXs X mk E rest ρ1 o
theorem sq_stop (h : EXs X mk E body ρ o) (hs : o.stops := by trivial) : Seq X mk E body rest ρ o := .inl ⟨h, hs⟩
theorem sq_next (h : EXs X mk E body ρ (.nx ρ1)) (h2 : EXs X mk E rest ρ1 o) : Seq X mk E body rest ρ o := .inr ⟨ρ1, h, h2⟩
theorem sq_none (h2 : EXs X mk E rest ρ o) : Seq X mk E [] rest ρ o := .inr ⟨ρ, exs_nil, h2⟩
theorem tSt_stop {K : PySem.W.Frag} {D : Ends} {nx : St → Hp → Prop} {g : Gh} {Hs : Hp} (hs : o.stops) (k : tPost K mk E o D g Hs) : tPost K mk E o { D with nx := nx } g Hs := by
  cases o with
  | nx => exact hs.elim
  | bk => exact k
  | ct => exact k
  | rt => exact k
  | ex => exact k
theorem pss_some : PSs X rest (fun D σ H => ∃ ρ o, EXs X mk E rest ρ o ∧ tSt X.K mk E ρ o D σ H) := ⟨fun pins s σ H D I ⟨_, _, h, t⟩ => h.run pins s σ H D I t⟩
theorem exs_if (hc : QT X c ρ p) (h1 : p = true → Seq X mk E body rest ρ o) (h2 : p = false → Seq X mk E els rest ρ o) : EXs X mk E (.If c body els pos :: rest) ρ o :=
  pss_imp (pss_cons (ps_if hc (pss_some (rest := body) (mk := mk) (E := E)) (pss_some (rest := els) (mk := mk) (E := E))) (pss_some (rest := rest) (mk := mk) (E := E))) fun D σ H ⟨g, Hs, env, k⟩ => by
    refine ⟨Hs, env_q env, fun Hs1 H1 e1 => ?_⟩
    have k1 := tPost_later e1.data k
    cases p with
    | true =>
      refine iteT ?_
      rcases h1 rfl with ⟨h, hs⟩ | ⟨ρ1, h, hr⟩
      · exact ⟨ρ, o, h, g, Hs1, env_ext e1 env, tSt_stop hs k1⟩
      · exact ⟨ρ, _, h, g, Hs1, env_ext e1 env, fun σ' Hs' H' s' e' => ⟨ρ1, o, hr, g, Hs', e', tPost_later s' k1⟩⟩
    | false =>
      refine iteF ?_
      rcases h2 rfl with ⟨h, hs⟩ | ⟨ρ1, h, hr⟩
      · exact ⟨ρ, o, h, g, Hs1, env_ext e1 env, tSt_stop hs k1⟩
      · exact ⟨ρ, _, h, g, Hs1, env_ext e1 env, fun σ' Hs' H' s' e' => ⟨ρ1, o, hr, g, Hs', e', tPost_later s' k1⟩⟩
theorem ex_doc {z j} {pp : Pos} : EX X mk E (.Expr (.Constant (.str z) j pp) pos) ρ (.nx ρ) := ps_imp ps_doc fun D σ H ⟨g, Hs, env, k⟩ => k σ Hs H (.refl _) env
theorem ex_pass : EX X mk E (.Pass pos) ρ (.nx ρ) := ps_imp ps_pass fun D σ H ⟨g, Hs, env, k⟩ => k σ Hs H (.refl _) env
theorem ex_break : EX X mk E (.Break pos) ρ (.bk ρ) := ps_imp ps_break fun D σ H ⟨g, Hs, env, k⟩ => k σ Hs H (.refl _) env
theorem ex_continue : EX X mk E (.Continue pos) ρ (.ct ρ) := ps_imp ps_continue fun D σ H ⟨g, Hs, env, k⟩ => k σ Hs H (.refl _) env
theorem env_set {K : PySem.W.Frag} {g : Gh} {Hs H : Hp} {T : List VR} {σ : St} {v : V} {i : Nat} (env : EnvAt K mk g Hs H ((v, x) :: T) σ ρ) (hi : i < ρ.length) (hp : mk[i]? ≠ some true) : EnvAt K mk g Hs H T (σ.set i (some v)) (ρ.set i (.ow x)) := by
  obtain ⟨⟨L, sl, h8⟩, pk, bor⟩ := env
  obtain ⟨L', L0, Lx, a, b, c⟩ := sl_set (v := v) (r := x) i sl hi
  refine ⟨⟨L', a, ?_⟩, fun j w h1 h2 => ?_, fun j r h1 => ?_⟩
  · have h1 : St9 K g Hs H (Lx ++ (L0 ++ (v, x) :: T)) := by
      rw [← List.append_assoc]; exact st_perm (b.append_right _) h8
    have h2 := st_front (st_drop h1)
    exact st_perm (by simpa using (c.append_right T).symm) h2
  · rw [List.getElem?_set_ne (fun z => hp (by rw [z]; exact h1))]
    exact pk j w h1 h2
  · by_cases hj : i = j
    · subst hj
      rw [List.getElem?_set_self hi] at h1; cases h1
    · rw [List.getElem?_set_ne hj] at h1 ⊢
      exact bor j r h1
theorem ex_set {i : Nat} {n : Str} {pp : Pos} (hN : X.N.Nodup) (hi : X.N[i]? = some n) (hx : Loc X.env.scope n) (he : QV X e ρ x) (hl : Nat.ble (i + 1) ρ.length = true := by rfl) (hp : mk[i]? ≠ some true := by decide)
    (hs : swapsWith e (some (.Name n pp)) pos.line X.env = pure false := by rfl) (hf : X.fn n = true ∨ X.env.scope.names.lookup n = some .local := by first | exact .inl rfl | exact .inr rfl | assumption) :
    EX X mk E (.Assign [.Name n pp] e pos) ρ (.nx (ρ.set i (.ow x))) :=
  ps_imp (ps_set hN hi hx he hs hf) fun D σ H ⟨g, Hs, env, k⟩ => by
    refine ⟨Hs, env_q env, fun v Hs1 H1 fp e1 o n f => ?_⟩
    exact k _ Hs1 H1 e1.data (env_set (env_new e1 env o n f) (Nat.le_of_ble_eq_true hl) hp)
theorem ex_expr (he : QV X e ρ x) (hs : swapsWith e none pos.line X.env = pure false := by rfl) : EX X mk E (.Expr e pos) ρ (.nx ρ) :=
  ps_imp (ps_expr he hs) fun D σ H ⟨g, Hs, env, k⟩ => ⟨Hs, env_q env, fun v Hs1 H1 fp e1 o n f => k σ Hs1 H1 e1.data (env_ext e1 env)⟩
/-- the arguments that a def may change, as they stand at its end -/
def PinsAt (mk : List Bool) (ρ : En) (ps : List Rs) : Prop := ∀ i : Nat, mk[i]? = some true → ∃ r, ps[i]? = some r ∧ ρ[i]? = some (.ow r)
theorem pinsAt_nil {ps : List Rs} : PinsAt [] ρ ps := fun i h => by simp at h
theorem sel_out {K : PySem.W.Frag} {g : Gh} {Hs H : Hp} : ∀ {mk : List Bool} {ρ : En} {σ : St} {vs0 : List V} {ps : List Rs} {L M : List VR}, (∀ (i : Nat) (v : V), mk[i]? = some true → vs0[i]? = some v → σ[i]? = some (some v)) → PinsAt mk ρ ps → Sl σ ρ L → St9 K g Hs H (M ++ L) → St9 K g Hs H (M ++ sel mk (vs0.zip ps))
  | [], _, _, _, _, _, _, _, _, _, h => by
    have : ∀ z, sel [] z = [] := fun z => by cases z <;> rfl
    rw [this, List.append_nil]
    exact st_drop (st_perm List.perm_append_comm h)
  | m :: mk, ρ, σ, [], ps, L, M, _, _, _, h => by
    have : ∀ m z, sel m ([].zip z) = [] := fun m z => by cases m <;> first | rfl | (rename_i b t; cases b <;> rfl)
    rw [this, List.append_nil]
    exact st_drop (st_perm List.perm_append_comm h)
  | m :: mk, ρ, σ, v :: vs0, [], L, M, _, _, _, h => by
    have : ∀ m (z : List V), sel m (z.zip ([] : List Rs)) = [] := fun m z => by rw [List.zip_nil_right]; cases m <;> first | rfl | (rename_i b t; cases b <;> rfl)
    rw [this, List.append_nil]
    exact st_drop (st_perm List.perm_append_comm h)
  | false :: mk, [], σ, v :: vs0, r :: ps, L, M, pk, pin, sl, h => by
    cases sl
    exact sel_out (mk := mk) (ρ := []) (σ := []) (vs0 := vs0) (ps := ps) (L := []) (fun i v a b => by simpa using pk (i + 1) v (by simpa using a) (by simpa using b)) (fun i a => by simpa using pin (i + 1) (by simpa using a)) .nil h
  | false :: mk, _ :: ρ, _, v :: vs0, r :: ps, L, M, pk, pin, .un sl, h => by
    exact sel_out (mk := mk) (fun i v a b => by simpa using pk (i + 1) v (by simpa using a) (by simpa using b)) (fun i a => by simpa using pin (i + 1) (by simpa using a)) sl h
  | false :: mk, _ :: ρ, _, v :: vs0, r :: ps, L, M, pk, pin, .bo sl, h => by
    exact sel_out (mk := mk) (fun i v a b => by simpa using pk (i + 1) v (by simpa using a) (by simpa using b)) (fun i a => by simpa using pin (i + 1) (by simpa using a)) sl h
  | false :: mk, _ :: ρ, _, v :: vs0, r :: ps, _ :: L, M, pk, pin, .ow sl, h => by
    refine sel_out (mk := mk) (fun i v a b => by simpa using pk (i + 1) v (by simpa using a) (by simpa using b)) (fun i a => by simpa using pin (i + 1) (by simpa using a)) sl (st_tail (st_front h))
  | true :: mk, [], σ, v :: vs0, r :: ps, L, M, pk, pin, sl, h => by
    obtain ⟨_, _, z⟩ := pin 0 rfl
    simp at z
  | true :: mk, _ :: ρ, _, v :: vs0, r :: ps, L, M, pk, pin, .un sl, h => by
    obtain ⟨_, _, z⟩ := pin 0 rfl
    simp at z
  | true :: mk, _ :: ρ, _, v :: vs0, r :: ps, L, M, pk, pin, .bo sl, h => by
    obtain ⟨_, _, z⟩ := pin 0 rfl
    simp at z
  | true :: mk, _ :: ρ, _, v :: vs0, r :: ps, (v', r') :: L, M, pk, pin, .ow sl, h => by
    obtain ⟨r2, z1, z2⟩ := pin 0 rfl
    have q := pk 0 v rfl rfl
    simp at z1 z2 q
    subst z1; subst z2; subst q
    have h' : St9 K g Hs H ((M ++ [(v', r')]) ++ L) := by rw [List.append_assoc]; exact h
    have q := sel_out (mk := mk) (vs0 := vs0) (ps := ps) (fun i v a b => by simpa using pk (i + 1) v (by simpa using a) (by simpa using b)) (fun i a => by simpa using pin (i + 1) (by simpa using a)) sl h'
    rw [List.append_assoc] at q
    exact q
theorem ex_ret {ps : List Rs} (he : QV X e ρ x) (hp : PinsAt mk ρ ps) : EX X mk E (.Return (some e) pos) ρ (.rt x ps) :=
  ps_imp (ps_ret he) fun D σ H ⟨g, Hs, env, k⟩ => by
    refine ⟨Hs, env_q env, fun v Hs1 H1 fp e1 o n f => k v Hs1 H1 e1.data ?_⟩
    obtain ⟨⟨L, sl, h8⟩, pk, _⟩ := env_new e1 env o n f
    have h1 : St9 X.K g Hs1 H1 ([(v, x)] ++ L) := st_perm List.perm_append_comm h8
    exact sel_out pk hp sl h1
theorem ex_retN {ps : List Rs} (hp : PinsAt mk ρ ps) : EX X mk E (.Return none pos) ρ (.rt (.da .none) ps) :=
  ps_imp ps_retN fun D σ H ⟨g, Hs, env, k⟩ => by
    refine k .non Hs H (.refl _) ?_
    obtain ⟨⟨L, sl, h8⟩, pk, _⟩ := env
    rw [List.append_nil] at h8
    have h1 : St9 X.K g Hs H ([(V.non, .da .none)] ++ L) := st_data h8 .non
    exact sel_out pk hp sl h1
/-- return x, x a thing of one's own -/
theorem ex_retV {i : Nat} {ps : List Rs} (h : PE X e (tVar i)) (hi : ρ[i]? = some (.ow x)) (hp : PinsAt mk (ρ.set i .un) ps) : EX X mk E (.Return (some e) pos) ρ (.rt x ps) :=
  ps_imp (ps_ret h) fun D σ H ⟨g, Hs, env, k⟩ => by
    obtain ⟨⟨L, sl, h8⟩, pk, _⟩ := env
    rw [List.append_nil] at h8
    obtain ⟨v, L1, L2, a, b, _, s2⟩ := sl_get sl hi
    subst b
    refine ⟨v, a, k v Hs H (.refl _) ?_⟩
    have h1 : St9 X.K g Hs H ((v, x) :: (L1 ++ L2)) := st_front h8
    exact sel_out (M := [(v, x)]) pk hp s2 h1
theorem exs_freeze {ps : List Rs} (h : EXs X mk E rest ρ (.rt (.lst ds) ps)) : EXs X mk E rest ρ (.rt (.da (.list ds)) ps) :=
  pss_imp h fun D σ H ⟨g, Hs, env, k⟩ => ⟨g, Hs, env, fun v Hs1 H1 s1 h1 => by
    obtain ⟨a, xs, _, _, _, _, Hs2, s2, h2⟩ := st_lst h1
    exact k v Hs2 H1 (s1.trans s2) h2⟩
theorem ex_if (hc : QT X c ρ p) (h1 : p = true → EXs X mk E body ρ o) (h2 : p = false → EXs X mk E els ρ o) : EX X mk E (.If c body els pos) ρ o :=
  ps_imp (ps_if hc (pss_given h1) (pss_given h2)) fun D σ H ⟨g, Hs, env, k⟩ => by
    refine ⟨Hs, env_q env, fun Hs1 H1 e1 => ?_⟩
    cases p with
    | true => exact iteT ⟨rfl, g, Hs1, env_ext e1 env, tPost_later e1.data k⟩
    | false => exact iteF ⟨rfl, g, Hs1, env_ext e1 env, tPost_later e1.data k⟩
/-- a, b = e1, e2 -/
theorem ex_par {i j : Nat} {n m : Str} {px py pt : Pos} {kt k2 pt2} (hc : X.calm = true) (hN : X.N.Nodup) (hi : X.N[i]? = some n) (hj : X.N[j]? = some m) (hij : i ≠ j)
    (hx : X.env.scope.names.lookup n = some .local) (hy : X.env.scope.names.lookup m = some .local) (ha : QDs X [a, b] ρ [d1, d2])
    (hw : swappedStores [.Tuple [.Name n px, .Name m py] kt pt] (.Tuple [a, b] k2 pt2) X.env = pure (some [n, m]))
    (hl1 : Nat.ble (i + 1) ρ.length = true := by rfl) (hl2 : Nat.ble (j + 1) ρ.length = true := by rfl) (hp1 : mk[i]? ≠ some true := by decide) (hp2 : mk[j]? ≠ some true := by decide)
    (hs : swapsWithSole [.Tuple [.Name n px, .Name m py] kt pt] (.Tuple [a, b] k2 pt2) pos.line X.env = pure false := by rfl) :
    EX X mk E (.Assign [.Tuple [.Name n px, .Name m py] kt pt] (.Tuple [a, b] k2 pt2) pos) ρ (.nx ((ρ.set i (.ow (.da d1))).set j (.ow (.da d2)))) :=
  ps_imp (ps_par hc hN hi hj hij hx hy ha hw hs) fun D σ H ⟨g, Hs, env, k⟩ => by
    refine ⟨Hs, env_q env, fun vs Hs1 H1 e1 q => ?_⟩
    obtain ⟨v, w, rfl, q1, q2⟩ := dpAll_2 q
    refine ⟨v, w, rfl, k _ Hs1 H1 e1.data ?_⟩
    exact env_set (env_push (env_set (env_push (env_ext e1 env) q1) (Nat.le_of_ble_eq_true hl1) hp1) q2) (by rw [List.length_set]; exact (Nat.le_of_ble_eq_true hl2)) hp2

/-! ### lists of one's own -/
theorem env_lst {K : PySem.W.Frag} {g : Gh} {Hs H : Hp} {T : List VR} {σ : St} {i : Nat} (env : EnvAt K mk g Hs H T σ ρ) (h : ρ[i]? = some (.ow (.lst ds))) : ∃ a xs, σ[i]? = some (some (.ref a)) ∧ H a = some (.lst xs) ∧ DpAll K Hs xs ds ∧
    ∀ xs' ds', DpAll K Hs xs' ds' → EnvAt K mk g Hs (upd H a (.lst xs')) T σ (ρ.set i (.ow (.lst ds'))) := by
  obtain ⟨⟨L, sl, h8⟩, pk, bor⟩ := env
  obtain ⟨v, L1, L2, a, b, c, _⟩ := sl_get sl h
  subst b
  have h1 : St9 K g Hs H ((v, .lst ds) :: (L1 ++ L2 ++ T)) := st_perm (by simp [List.append_assoc, List.perm_middle]) h8
  obtain ⟨l, xs, rfl, hl, q, f, _⟩ := st_lst h1
  refine ⟨l, xs, a, hl, q, fun xs' ds' q' => ⟨⟨_, c (.lst ds'), ?_⟩, pk, fun j r h1 => ?_⟩⟩
  · exact st_perm (by simpa [List.append_assoc] using List.perm_middle.symm) (f xs' ds' q')
  · by_cases hj : i = j
    · subst hj
      rw [List.getElem?_set_self (List.getElem?_eq_some_iff.mp h).1] at h1; cases h1
    · rw [List.getElem?_set_ne hj] at h1
      exact bor j r h1
theorem ex_append {i : Nat} {apos cpos : Pos} {o : Expr} (ho : PE X o (tVar i)) (hi : ρ[i]? = some (.ow (.lst ds))) (he : QD X e ρ d) (hz : ds.length < sizeLine)
    (hbase : attributeBase o "append" X.env (eval o X.env) = eval o X.env := by rfl)
    (hfew : ((backTo cpos (starEach (e :: []) X.env)).all (fun x => !x.1) && (backToKw cpos (keywordEach [] X.env)).all (fun x => x.1.isSome)
      && decide ((e :: ([] : List Expr)).length + ([] : List Keyword).length + (if ([] : List Keyword).isEmpty then 0 else 1) < 30)) = true := by rfl)
    (hline : (apos.endLine == cpos.line) = true := by rfl) (hs : starEach (e :: []) X.env = (false, eval e X.env) :: starEach [] X.env := by rfl) (hplain : (backTo cpos (starEach [] X.env)).any (·.1) = false := by rfl)
    (hsw : swapsWith (.Call (.Attribute o "append" apos) [e] [] cpos) none pos.line X.env = pure false := by rfl) :
    EX X mk E (.Expr (.Call (.Attribute o "append" apos) [e] [] cpos) pos) ρ (.nx (ρ.set i (.ow (.lst (ds ++ [d]))))) :=
  ps_imp (ps_expr (pe_bm PySem.F.plainAttrs_list PySem.F.slot_list_append PySem.F.type_list_append mt_append ho (qs_cons he qs_nil hs) hbase hfew hline hs hplain) hsw) fun D σ H ⟨g, Hs, env, k⟩ => by
    obtain ⟨a, xs, h1, h2, h3, _⟩ := env_lst env hi
    refine ⟨_, h1, .inl ⟨rfl, xs, SqL.of h2⟩, Hs, env_q env, fun vs Hs1 H1 e1 q => ?_⟩
    obtain ⟨v, rfl, q1⟩ := dpAll_1 q
    obtain ⟨a', xs', h1', h2', h3', f⟩ := env_lst (env_ext e1 env) hi
    rw [h1] at h1'; cases h1'
    exact ⟨a, xs', v, rfl, rfl, h2', by rw [dpAll_length h3']; exact hz, k σ Hs1 _ e1.data (f _ _ (dpAll_append h3' (.cons q1 .nil)))⟩
end
end Bg

namespace Bg
open PySem L2
section
variable {X : Cx} {mk : List Bool} {E : XK} {ρ ρ1 ρ2 ρ3 : En} {e a b c : Expr} {es : List Expr} {x y : Rs} {d d1 d2 : PyData} {ds : List PyData} {pos : Pos} {p q : Bool} {st : Stmt} {rest body els : List Stmt} {o : Out}
/-! ### while -/
inductive Wh (X : Cx) (mk : List Bool) (E : XK) (c : Expr) (body : List Stmt) : Nat → En → Out → Prop
  | done {ρ : En} : QT X c ρ false → Wh X mk E c body 0 ρ (.nx ρ)
  | step {n : Nat} {ρ ρ2 : En} {o : Out} : QT X c ρ true → EXs X mk E body ρ (.nx ρ2) → Wh X mk E c body n ρ2 o → Wh X mk E c body (n + 1) ρ o
  | cont {n : Nat} {ρ ρ2 : En} {o : Out} : QT X c ρ true → EXs X mk E body ρ (.ct ρ2) → Wh X mk E c body n ρ2 o → Wh X mk E c body (n + 1) ρ o
  | brk {ρ ρ2 : En} : QT X c ρ true → EXs X mk E body ρ (.bk ρ2) → Wh X mk E c body 0 ρ (.nx ρ2)
  | ret {ρ : En} {x : Rs} {ps : List Rs} : QT X c ρ true → EXs X mk E body ρ (.rt x ps) → Wh X mk E c body 0 ρ (.rt x ps)
def WH (X : Cx) (mk : List Bool) (E : XK) (c : Expr) (body : List Stmt) (ρ : En) (o : Out) : Prop := ∃ n, Wh X mk E c body n ρ o
theorem wh_done (h : QT X c ρ false) : WH X mk E c body ρ (.nx ρ) := ⟨0, .done h⟩
theorem wh_step (h : QT X c ρ true) (h2 : EXs X mk E body ρ (.nx ρ2)) (h3 : WH X mk E c body ρ2 o) : WH X mk E c body ρ o := let ⟨n, h⟩ := h3; ⟨n + 1, .step ‹_› h2 h⟩
theorem wh_ret {ps : List Rs} (h : QT X c ρ true) (h2 : EXs X mk E body ρ (.rt x ps)) : WH X mk E c body ρ (.rt x ps) := ⟨0, .ret h h2⟩
theorem ex_while (hp : PassesOwn (model X.prog X.w) X.A X.env X.xe) (h : WH X mk E c body ρ o) : EX X mk E (.While c body [] pos) ρ o := by
  obtain ⟨n, h0⟩ := h
  have hc : PT X c (fun σ H Q => ∃ ρ b, QT X c ρ b ∧ tQT X.K ρ b σ H Q) := ⟨fun pins s σ H Q I ⟨_, _, h, t⟩ => h.run pins s σ H Q I t⟩
  refine ps_imp (ps_while hp hc (pss_some (rest := body) (mk := mk) (E := E))) fun D σ H hw => ?_
  refine ⟨fun m σ H => ∃ ρ, Wh X mk E c body m ρ o ∧ tSt X.K mk E ρ o D σ H, ⟨n, ρ, h0, hw⟩, ?_⟩
  clear h0
  rintro m σ H ⟨ρ, h, g, Hs, env, k⟩
  have later : ∀ {m' : Nat} {ρ2 : En} {σ2 : St} {Hs2 H2 : Hp}, Wh X mk E c body m' ρ2 o → Same Hs Hs2 → EnvAt X.K mk g Hs2 H2 [] σ2 ρ2 → ∃ ρ, Wh X mk E c body m' ρ o ∧ tSt X.K mk E ρ o D σ2 H2 :=
    fun {m' ρ2 σ2 Hs2 H2} h s e => ⟨ρ2, h, g, Hs2, e, tPost_later s k⟩
  cases h with
  | done h =>
    exact ⟨_, _, h, Hs, env_q env, fun Hs1 H1 e1 => iteF (k σ Hs1 H1 e1.data (env_ext e1 env))⟩
  | @step n ρ ρ2 o h h2 h3 =>
    refine ⟨_, _, h, Hs, env_q env, fun Hs1 H1 e1 => iteT ⟨fun σ' H' => ∃ ρ, Wh X mk E c body n ρ o ∧ tSt X.K mk E ρ o D σ' H', fun σ' H' hN => ⟨n, by omega, hN⟩, ?_⟩⟩
    exact ⟨_, _, h2, g, Hs1, env_ext e1 env, fun σ2 Hs2 H2 s2 e2 => later h3 (e1.data.trans s2) e2⟩
  | @cont n ρ ρ2 o h h2 h3 =>
    refine ⟨_, _, h, Hs, env_q env, fun Hs1 H1 e1 => iteT ⟨fun σ' H' => ∃ ρ, Wh X mk E c body n ρ o ∧ tSt X.K mk E ρ o D σ' H', fun σ' H' hN => ⟨n, by omega, hN⟩, ?_⟩⟩
    exact ⟨_, _, h2, g, Hs1, env_ext e1 env, fun σ2 Hs2 H2 s2 e2 => later h3 (e1.data.trans s2) e2⟩
  | brk h h2 =>
    refine ⟨_, _, h, Hs, env_q env, fun Hs1 H1 e1 => iteT ⟨fun _ _ => False, fun _ _ z => z.elim, ?_⟩⟩
    exact ⟨_, _, h2, g, Hs1, env_ext e1 env, fun σ2 Hs2 H2 s2 e2 => k σ2 Hs2 H2 (e1.data.trans s2) e2⟩
  | ret h h2 =>
    refine ⟨_, _, h, Hs, env_q env, fun Hs1 H1 e1 => iteT ⟨fun _ _ => False, fun _ _ z => z.elim, ?_⟩⟩
    exact ⟨_, _, h2, g, Hs1, env_ext e1 env, fun v Hs2 H2 s2 e2 => k v Hs2 H2 (e1.data.trans s2) e2⟩

/-! ### for -/
/-- what is walked yields the data ds one by one -/
def Wk (K : PySem.W.Frag) (Hs : Hp) (J : It) (ds : List PyData) : Prop := ∀ Hs1 H1, Same Hs Hs1 → Same Hs1 H1 →
  (∀ (j : Nat) d, ds[j]? = some d → J.go j H1 ∧ ∀ x H3, J.yld j H1 x H3 → H3 = H1 ∧ Dp K Hs1 x d) ∧ ∀ j, ds.length ≤ j → J.stop j H1
def tIt (K : PySem.W.Frag) (ρ : En) (ds : List PyData) : TI := fun σ H R => ∃ Hs, EnvQ K Hs H σ ρ ∧ ∀ J Hs' H', Ext Hs H Hs' H' → Wk K Hs' J ds → R J H'
def ITR (X : Cx) (tg iter : Expr) (ρ : En) (ds : List PyData) : Prop := PI X tg iter (tIt X.K ρ ds)
theorem it_list {tg : Expr} (h : QD X e ρ (.list ds)) : ITR X tg e ρ ds :=
  pi_imp (pi_list h) fun σ H Q ⟨Hs, env, k⟩ => tq_data env fun v Hs1 H1 e1 dv => by
    obtain ⟨a, xs, rfl, q, r⟩ := dp_lst dv
    refine ⟨a, rfl, ⟨xs, e1.sub.seq q⟩, k _ Hs1 H1 e1 fun Hs2 H2 s2 t2 => ⟨fun j d hj => ?_, fun j hj => ?_⟩⟩
    · obtain ⟨v, hv, dv⟩ := dpAll_get r hj
      refine ⟨⟨xs, v, t2.seq (s2.seq q), hv⟩, fun x H3 y => ⟨y.1, ?_⟩⟩
      have := y.2 xs (t2.seq (s2.seq q))
      rw [hv] at this; cases this
      exact dp_mono s2 dv
    · exact ⟨xs, t2.seq (s2.seq q), by rw [dpAll_length r]; exact hj⟩
theorem it_tuple {tg : Expr} (h : QD X e ρ (.tuple ds)) : ITR X tg e ρ ds :=
  pi_imp (pi_tup h) fun σ H Q ⟨Hs, env, k⟩ => tq_data env fun v Hs1 H1 e1 dv => by
    obtain ⟨a, xs, rfl, q, r⟩ := dp_tup dv
    refine ⟨a, rfl, ⟨xs, sqT_mono e1.sub q⟩, k _ Hs1 H1 e1 fun Hs2 H2 s2 t2 => ⟨fun j d hj => ?_, fun j hj => ?_⟩⟩
    · obtain ⟨v, hv, dv⟩ := dpAll_get r hj
      refine ⟨⟨xs, v, sqT_mono t2 (sqT_mono s2 q), hv⟩, fun x H3 y => ⟨y.1, ?_⟩⟩
      have := y.2 xs (sqT_mono t2 (sqT_mono s2 q))
      rw [hv] at this; cases this
      exact dp_mono s2 dv
    · exact ⟨xs, sqT_mono t2 (sqT_mono s2 q), by rw [dpAll_length r]; exact hj⟩
/-- 0, 1, .., n - 1 -/
def rng (lo : Int) (n : Nat) : List PyData := (List.range n).map fun i => .int (lo + (i : Nat))
theorem wk_rng {K : PySem.W.Frag} {Hs : Hp} {lo : Int} {n : Nat} : Wk K Hs (Itr lo n) (rng lo n) := fun Hs1 H1 _ _ => by
  refine ⟨fun j d hj => ?_, fun j hj => ?_⟩
  · unfold rng at hj
    rw [List.getElem?_map] at hj
    cases q : (List.range n)[j]? with
    | none => rw [q] at hj; cases hj
    | some i =>
      rw [q] at hj
      obtain ⟨hlt, e⟩ := List.getElem?_eq_some_iff.mp q
      simp at e hlt
      subst e
      cases hj
      exact ⟨hlt, fun x H3 y => ⟨y.1, by rw [y.2]; exact .int _⟩⟩
  · show n ≤ j
    simpa [rng] using hj
theorem it_range {tg : Expr} {pp : Pos} {n : Int} (hm : X.mg "range" = none) (h : QD X e ρ (.int n)) (h1 : -(2 ^ 62) ≤ n) (h2 : n < 2 ^ 62) (hg : Gl X "range" := by rfl) (hs : starEach [e] X.env = [(false, eval e X.env)] := by rfl) :
    ITR X tg (.Call (.Name "range" pp) [e] [] pos) ρ (rng 0 n.toNat) :=
  pi_imp (pi_range1 hg hm (qs_cons h qs_nil hs) hs) fun σ H Q ⟨Hs, env, k⟩ => by
    refine ⟨Hs, env, fun vs Hs1 H1 e1 q => ?_⟩
    obtain ⟨v, rfl, q1⟩ := dpAll_1 q
    rw [dp_int q1]
    exact ⟨n, rfl, h1, h2, k _ Hs1 H1 e1 wk_rng⟩
inductive FoP (X : Cx) (mk : List Bool) (E : XK) (i : Nat) (body : List Stmt) : List PyData → En → Out → Prop
  | nil {ρ : En} : FoP X mk E i body [] ρ (.nx ρ)
  | next {d : PyData} {ds : List PyData} {ρ ρ1 : En} {o : Out} (h : EXs X mk E body (ρ.set i (.ow (.da d))) (.nx ρ1)) (t : FoP X mk E i body ds ρ1 o) (hi : Nat.ble (i + 1) ρ.length = true := by rfl) : FoP X mk E i body (d :: ds) ρ o
  | cont {d : PyData} {ds : List PyData} {ρ ρ1 : En} {o : Out} (h : EXs X mk E body (ρ.set i (.ow (.da d))) (.ct ρ1)) (t : FoP X mk E i body ds ρ1 o) (hi : Nat.ble (i + 1) ρ.length = true := by rfl) : FoP X mk E i body (d :: ds) ρ o
  | brk {d : PyData} {ds : List PyData} {ρ ρ1 : En} (h : EXs X mk E body (ρ.set i (.ow (.da d))) (.bk ρ1)) (hi : Nat.ble (i + 1) ρ.length = true := by rfl) : FoP X mk E i body (d :: ds) ρ (.nx ρ1)
  | ret {d : PyData} {ds : List PyData} {ρ : En} {x : Rs} {ps : List Rs} (h : EXs X mk E body (ρ.set i (.ow (.da d))) (.rt x ps)) (hi : Nat.ble (i + 1) ρ.length = true := by rfl) : FoP X mk E i body (d :: ds) ρ (.rt x ps)
theorem ex_for {i : Nat} {n : Str} {pp : Pos} (hp : PassesOwn (model X.prog X.w) X.A X.env X.xe) (hc : X.calm = true) (hN : X.N.Nodup) (hi : X.N[i]? = some n) (hx : Loc X.env.scope n) (hI : ITR X (.Name n pp) e ρ ds)
    (h : FoP X mk E i body ds ρ o) (hm : mk[i]? ≠ some true := by decide)
    (hs : ∀ x, foldedSetIterable e X.env x = pure x := by intro _; rfl) (hf : X.fn n = true ∨ X.env.scope.names.lookup n = some .local := by first | exact .inl rfl | exact .inr rfl | assumption) :
    EX X mk E (.For (.Name n pp) e body [] pos) ρ o := by
  refine ps_imp (ps_for hp hc hI (pg_name hN hi hx hf) (pss_some (rest := body) (mk := mk) (E := E)) hs) fun D σ H ⟨g, Hs, env, k⟩ => ?_
  refine ⟨Hs, env_q env, fun J Hs1 H1 x1 wk => ?_⟩
  have s1 := x1.data
  refine ⟨fun j m σ H => ∃ ds' ρ' Hs', ds.drop j = ds' ∧ m = ds'.length ∧ FoP X mk E i body ds' ρ' o ∧ Same Hs1 Hs' ∧ EnvAt X.K mk g Hs' H [] σ ρ', ⟨_, ds, ρ, Hs1, rfl, rfl, h, .refl _, env_ext x1 env⟩, ?_⟩
  clear h
  rintro j m σ H ⟨ds', ρ', Hs', hd, hm', h, s', env'⟩
  obtain ⟨wg, ws⟩ := wk Hs' H s' (env_sub env')
  have s2 := s1.trans s'
  have item : ∀ {d : PyData} {t : List PyData}, ds' = d :: t → ds[j]? = some d ∧ ds.drop (j + 1) = t := fun {d t} e => by
    rw [e] at hd
    have hj : j < ds.length := by
      have := congrArg List.length hd
      simp at this
      omega
    rw [List.drop_eq_getElem_cons hj] at hd
    injection hd with a b
    exact ⟨by rw [List.getElem?_eq_getElem hj, a], b⟩
  cases h with
  | nil =>
    refine .inl ⟨ws j ?_, k σ Hs' H s2 env'⟩
    have := congrArg List.length hd
    simp at this
    omega
  | @next d t ρ ρ1 o h t' hl =>
    obtain ⟨a, b⟩ := item rfl
    obtain ⟨g', y⟩ := wg j d a
    refine .inr ⟨g', fun σ2 H2 => ∃ ρ' Hs', FoP X mk E i body t ρ' o ∧ Same Hs1 Hs' ∧ EnvAt X.K mk g Hs' H2 [] σ2 ρ', fun σ2 H2 ⟨ρ2, Hs2, q1, q2, q3⟩ => ⟨t.length, by rw [hm']; simp, t, ρ2, Hs2, b, rfl, q1, q2, q3⟩, fun x H3 yl => ?_⟩
    obtain ⟨rfl, dx⟩ := y x H3 yl
    exact ⟨_, _, h, g, Hs', env_set (env_push env' dx) (Nat.le_of_ble_eq_true hl) hm, fun σ4 Hs4 H4 s4 e4 => ⟨_, Hs4, t', s'.trans s4, e4⟩⟩
  | @cont d t ρ ρ1 o h t' hl =>
    obtain ⟨a, b⟩ := item rfl
    obtain ⟨g', y⟩ := wg j d a
    refine .inr ⟨g', fun σ2 H2 => ∃ ρ' Hs', FoP X mk E i body t ρ' o ∧ Same Hs1 Hs' ∧ EnvAt X.K mk g Hs' H2 [] σ2 ρ', fun σ2 H2 ⟨ρ2, Hs2, q1, q2, q3⟩ => ⟨t.length, by rw [hm']; simp, t, ρ2, Hs2, b, rfl, q1, q2, q3⟩, fun x H3 yl => ?_⟩
    obtain ⟨rfl, dx⟩ := y x H3 yl
    exact ⟨_, _, h, g, Hs', env_set (env_push env' dx) (Nat.le_of_ble_eq_true hl) hm, fun σ4 Hs4 H4 s4 e4 => ⟨_, Hs4, t', s'.trans s4, e4⟩⟩
  | @brk d t ρ ρ1 h hl =>
    obtain ⟨a, b⟩ := item rfl
    obtain ⟨g', y⟩ := wg j d a
    refine .inr ⟨g', fun _ _ => False, fun _ _ z => z.elim, fun x H3 yl => ?_⟩
    obtain ⟨rfl, dx⟩ := y x H3 yl
    exact ⟨_, _, h, g, Hs', env_set (env_push env' dx) (Nat.le_of_ble_eq_true hl) hm, fun σ4 Hs4 H4 s4 e4 => k σ4 Hs4 H4 (s2.trans s4) e4⟩
  | @ret d t ρ x ps h hl =>
    obtain ⟨a, b⟩ := item rfl
    obtain ⟨g', y⟩ := wg j d a
    refine .inr ⟨g', fun _ _ => False, fun _ _ z => z.elim, fun x H3 yl => ?_⟩
    obtain ⟨rfl, dx⟩ := y x H3 yl
    exact ⟨_, _, h, g, Hs', env_set (env_push env' dx) (Nat.le_of_ble_eq_true hl) hm, fun v Hs4 H4 s4 e4 => k v Hs4 H4 (s2.trans s4) e4⟩
end

/-! ### a def -/
def start0 (N : List Str) (as : List Rs) : En := as.map .bo ++ List.replicate (N.length - as.length) .un
theorem sl_un0 : ∀ (k : Nat), Sl (List.replicate k none) (List.replicate k .un) []
  | 0 => .nil
  | k + 1 => by rw [List.replicate_succ, List.replicate_succ]; exact .un (sl_un0 k)
theorem sl_bo0 {σ : St} {ρ : En} {L : List VR} (h : Sl σ ρ L) : ∀ (vs : List V) (as : List Rs), vs.length = as.length → Sl (vs.map some ++ σ) (as.map .bo ++ ρ) L
  | [], [], _ => h
  | v :: vs, r :: as, hl => .bo (sl_bo0 h vs as (by simpa using hl))
  | [], _ :: _, hl => by simp at hl
  | _ :: _, [], hl => by simp at hl
theorem env_start {K : PySem.W.Frag} {Hs H : Hp} {vs : List V} {as : List Rs} (N : List Str) (s : Same Hs H) (o : OwnQ K Hs H vs as) : EnvAt K [] ⟨Hs, H, fun _ => False, vs⟩ Hs H [] (start N vs) (start0 N as) := by
  have hl := ownQ_len o
  refine ⟨⟨[], ?_, s, ⟨[], .nil, by simp, by simp⟩, .refl _, fun _ _ e => .inl e, fun _ _ e _ => e⟩, fun i v h => by simp at h, fun i r h => ?_⟩
  · unfold L2.start start0
    rw [hl]
    exact sl_bo0 (sl_un0 _) vs as hl
  · unfold start0 at h
    have hi : i < as.length := by
      by_cases hi : i < as.length
      · exact hi
      · rw [List.getElem?_append_right (by simpa using hi)] at h
        have := List.mem_of_getElem? h
        simp [List.mem_replicate] at this
    rw [List.getElem?_append_left (by simpa using hi), List.getElem?_map] at h
    cases q : as[i]? with
    | none => rw [q] at h; cases h
    | some r' =>
      rw [q] at h
      have z : r' = r := by simpa using h
      subst z
      obtain ⟨v, fp, h1, h2⟩ := ownQ_get o q
      refine ⟨v, fp, ?_, h2, fun _ _ z => z⟩
      unfold L2.start
      have hv := (List.getElem?_eq_some_iff.mp h1).1
      rw [List.getElem?_append_left (by simpa using hv), List.getElem?_map, h1]
      rfl
/-- the end of a body: a return, or the body is run through -/
def Fin (X : Cx) (mk : List Bool) (E : XK) (ss : List Stmt) (ρ : En) (x : Rs) (ps : List Rs) : Prop := EXs X mk E ss ρ (.rt x ps) ∨ (x = .da .none ∧ ∃ ρ', EXs X mk E ss ρ (.nx ρ') ∧ PinsAt mk ρ' ps)
theorem st_end {K : PySem.W.Frag} {Hs H Hs' H' : Hp} {vs : List V} {v : V} {x : Rs} {L : List VR} (s : Same Hs H) (h : St9 K ⟨Hs, H, fun _ => False, vs⟩ Hs' H' ((v, x) :: L)) : Ext Hs H Hs' H' ∧ ∃ fp, Own K Hs' H' v x fp ∧ fp.Nodup ∧ ∀ a ∈ fp, H a = none ∧ Hs' a = none := by
  refine ⟨⟨h.data, fun a o e => h.keep a o e (fun z => z), h.sub, fun a o e => ?_⟩, ?_⟩
  · rcases h.new a o e with z | z | z
    · exact .inl z
    · exact .inr z
    · exact z.elim
  · obtain ⟨fp, o, n, f⟩ := h.own
    cases o with
    | cons o t =>
      refine ⟨_, o, (List.nodup_append.mp n).1, fun a m => ?_⟩
      have := f a (by simp [m])
      exact ⟨this.2.elim id fun z => z.elim, this.1⟩
section
variable {P : Program} {w : World} {K : PySem.W.Frag} {mg : Str → Option Value} {base : Heap}
theorem fnOk_of {x : Str} {st : Stmt} {N ps : List Str} {k : Nat} {F : List Rs → Rs → Prop} {f : Addr} {fd : FuncData} (Fu : Fun K x x st f fd) (S : FnScope N ps (defScope st))
    (hl : ∀ as x, F as x → as.length = ps.length)
    (body : ∀ (f : Addr) (cdv : Value) (A : Around) (outer : List Env) (s : Shared) (H : Hp) (E : XK) (as : List Rs) (r : Rs), Room k (A.deeper (PyProof.Rows.envOfC x (defScope st) s.heap.objs.size f cdv)) → F as r →
      Fin (cxOf CX0 P w K mg base N x (defScope st) f cdv A outer s H E).nox [] E0 (defBody st) (start0 N as) r []) : FnOk P w K mg base CX0 (k + 1) f fd ps (spQ K F) := by
  refine Fu.ok S (fun vs H Q E ⟨Hs, as, x, _, o, h, _⟩ => (ownQ_len o).trans (hl _ _ h)) fun cdv A outer s H vs Q E hr ⟨Hs, as, r, s0, o, hF, k⟩ => ?_
  have fin : ∀ v Hs' H' L, St9 K ⟨Hs, H, fun _ => False, vs⟩ Hs' H' ((v, r) :: L) → Q v H' := fun v Hs' H' L h => by
    obtain ⟨e, fp, o, n, f⟩ := st_end s0 h
    exact k v Hs' H' fp e o n f
  rcases body f cdv A outer s H E as r hr hF with h | ⟨rfl, ρ', h, _⟩
  · exact ⟨_, h, ⟨Hs, H, fun _ => False, vs⟩, Hs, env_start N s0 o, fun v Hs' H' _ h => fin v Hs' H' _ h⟩
  · refine ⟨_, h, ⟨Hs, H, fun _ => False, vs⟩, Hs, env_start N s0 o, fun σ' Hs' H' _ h => ?_⟩
    obtain ⟨L, _, h9⟩ := h.st
    exact fin _ Hs' H' _ (st_data h9 .non)
theorem fnQ_of {x : Str} {st : Stmt} {N ps : List Str} {k : Nat} {F : List Rs → Rs → Prop} (D : Df K mg x st) (S : FnScope N ps (defScope st))
    (hb : ∀ (kV doc pm : Value) (an : Option Addr) (cdv ct : Value) (us : List Value), us.length = ps.length → bindArgs (PySem.W.fnOf x x (defArgs st) (defBody st) (defScope st) .none kV doc pm an cdv ct) ⟨us, []⟩ = pure (ps.zip us))
    (hl : ∀ as x, F as x → as.length = ps.length)
    (body : ∀ (f : Addr) (cdv : Value) (A : Around) (outer : List Env) (s : Shared) (H : Hp) (E : XK) (as : List Rs) (r : Rs), Room k (A.deeper (PyProof.Rows.envOfC x (defScope st) s.heap.objs.size f cdv)) → F as r →
      Fin (cxOf CX0 P w K mg base N x (defScope st) f cdv A outer s H E).nox [] E0 (defBody st) (start0 N as) r []) : FnQ P w K mg base x (k + 1) F := by
  obtain ⟨f, fd, hm, Fu⟩ := D
  exact ⟨f, fd, ps, hm, Fu.kp, Fu.binds hb, fnOk_of Fu S hl body⟩
end
end Bg

namespace Bg
open PySem L2
section
variable {X : Cx} {ρ : En} {e a b c : Expr} {es rest : List Expr} {x y r : Rs} {rs : List Rs} {d d1 d2 : PyData} {ds : List PyData} {pos : Pos} {p q : Bool}
def tyn : PyData → String
  | .none => "NoneType"
  | .bool _ => "bool"
  | .int _ => "int"
  | .str _ => "str"
  | .list _ => "list"
  | .tuple _ => "tuple"
  | .dict _ => "dict"
theorem dp_ty {K : PySem.W.Frag} {H : Hp} {v : V} (h : Dp K H v d) : TyX K H v (.type (tyn d)) := by
  cases h with
  | non => exact .base .non
  | bl => exact .base (.bl _)
  | int => exact .base (.int _)
  | str => exact .base (.str _)
  | lst h _ =>
    rcases h with (h | ⟨o, h⟩) | ⟨o, _, _, h, c, _⟩
    · exact .base (.lst h)
    · exact .base (.frz h)
    · exact .kList h c
  | tup h _ =>
    rcases h with (h | ⟨o, h⟩) | ⟨o, _, _, h, c, _⟩
    · exact .base (.tup h)
    · exact .fTuple h
    · exact .kTuple h c
/-- an argument that is a class -/
def QC (X : Cx) (e : Expr) (c : V) : Prop := PE X e (tC c)
theorem q_isi {T : String} {r : Bool} {p : Pos} (hm : X.mg "isinstance" = none) (ha : QD X a ρ d) (hb : PE X b (tC (.ty T))) (hk : kitB (tyn d) T = some r) (hg : Gl X "isinstance" := by rfl)
    (he : starEach (a :: [b]) X.env = (false, eval a X.env) :: starEach [b] X.env := by rfl) (he2 : starEach (b :: []) X.env = (false, eval b X.env) :: starEach [] X.env := by rfl) (hpl : (backTo pos (starEach [b] X.env)).any (·.1) = false := by rfl) :
    QD X (.Call (.Name "isinstance" p) [a, b] [] pos) ρ (.bool r) :=
  pe_imp (pe_callB call_isi hg hm (by decide +kernel) (pa_cons ha (pa_cons hb pa_nil he2) he) (by decide) (by decide) he hpl) fun σ H Q ⟨Hs, env, k⟩ => tq_data env fun v Hs1 H1 e1 dv =>
    ⟨v, .ty T, _, _, r, rfl, .ty T, dp_ty (dp_mono e1.sub dv), kit_ty hk, kdata k e1 (.bl _)⟩
theorem q_isiO {T : String} {r : Bool} {p : Pos} (hm : X.mg "isinstance" = none) (ha : QA X a ρ (.lst ds)) (hb : PE X b (tC (.ty T))) (hk : kitB "list" T = some r) (hg : Gl X "isinstance" := by rfl)
    (he : starEach (a :: [b]) X.env = (false, eval a X.env) :: starEach [b] X.env := by rfl) (he2 : starEach (b :: []) X.env = (false, eval b X.env) :: starEach [] X.env := by rfl) (hpl : (backTo pos (starEach [b] X.env)).any (·.1) = false := by rfl) :
    QD X (.Call (.Name "isinstance" p) [a, b] [] pos) ρ (.bool r) :=
  pe_imp (pe_callB call_isi hg hm (by decide +kernel) (pa_cons ha (pa_cons hb pa_nil he2) he) (by decide) (by decide) he hpl) fun σ H Q ⟨Hs, env, k⟩ => by
    refine ⟨Hs, env, fun v Hs1 H1 fp e1 o => ?_⟩
    cases o with
    | lst h1 h2 => exact ⟨_, .ty T, _, _, r, rfl, .ty T, .base (.lst h1), kit_ty hk, kdata k e1 (.bl _)⟩
/-- a built-in class as a value -/
theorem q_ty {T : String} {n : Str} (hm : X.mg n = none) (hv : bootBuiltins n = some (.type T)) (hg : Gl X n := by rfl) (hn : n ≠ "__name__" := by decide) (hd : (n == ("__debug__" : Str)) = false := by decide) : PE X (.Name n pos) (tC (.ty T)) := pe_bltn hg hm hv rfl hn hd
/-- an int that the module's top has -/
theorem q_gint {n : Str} {i : Int} {t : Tok} (hm : X.mg n = some (.int i t)) (hg : Gl X n := by rfl) (hd : (n == ("__debug__" : Str)) = false := by decide) : QD X (.Name n pos) ρ (.int i) := q_cst (pe_glob (v := .int i) hg hm ⟨_, rfl⟩ hd) fun _ => .int i
theorem q_gstr {n : Str} {i : Str} {t : Tok} (hm : X.mg n = some (.str i t)) (hg : Gl X n := by rfl) (hd : (n == ("__debug__" : Str)) = false := by decide) : QD X (.Name n pos) ρ (.str i) := q_cst (pe_glob (v := .str i) hg hm ⟨_, rfl⟩ hd) fun _ => .str i
/-- items and lengths of data of any kind -/
def itemOf : PyData → Int → Option PyData
  | .tuple ds, i => atI ds i
  | .list ds, i => atI ds i
  | _, _ => none
theorem q_item {i : Int} (ha : QD X a ρ d1) (hb : QD X b ρ (.int i)) (he : itemOf d1 i = some d) (hs : PlainIx b := by exact (fun _ _ => rfl)) : QD X (.Subscript a b pos) ρ d := by
  cases d1 with
  | tuple ds => exact q_itemT ha hb he hs
  | list ds => exact q_itemL ha hb he hs
  | _ => cases he
def lenOf : PyData → Option Int
  | .tuple ds => some ds.length
  | .list ds => some ds.length
  | _ => none
theorem q_len {n : Int} {p : Pos} (hm : X.mg "len" = none) (ha : QD X e ρ d1) (hl : lenOf d1 = some n) (hg : Gl X "len" := by rfl) (he : starEach (e :: []) X.env = (false, eval e X.env) :: starEach [] X.env := by rfl) (hpl : (backTo pos (starEach [] X.env)).any (·.1) = false := by rfl) :
    QD X (.Call (.Name "len" p) [e] [] pos) ρ (.int n) := by
  cases d1 with
  | tuple ds => cases hl; exact q_lenT hm ha hg he hpl
  | list ds => cases hl; exact q_lenL hm ha hg he hpl
  | _ => cases hl
end
theorem qt_to {X : Cx} {e : Expr} {ρ : En} {b b' : Bool} (h : QT X e ρ b) (hb : b = b') : QT X e ρ b' := hb ▸ h
theorem q_to {X : Cx} {e : Expr} {ρ : En} {x x' : Rs} (h : QV X e ρ x) (hb : x = x') : QV X e ρ x' := hb ▸ h
theorem exs_to {X : Cx} {mk : List Bool} {E : XK} {ss : List Stmt} {ρ : En} {o o' : Out} (h : EXs X mk E ss ρ o) (hb : o = o') : EXs X mk E ss ρ o' := hb ▸ h
theorem ex_to {X : Cx} {mk : List Bool} {E : XK} {ss : Stmt} {ρ : En} {o o' : Out} (h : EX X mk E ss ρ o) (hb : o = o') : EX X mk E ss ρ o' := hb ▸ h
theorem wh_to {X : Cx} {mk : List Bool} {E : XK} {c : Expr} {body : List Stmt} {ρ ρ' : En} {o o' : Out} (h : WH X mk E c body ρ o) (hr : ρ = ρ') (hb : o = o') : WH X mk E c body ρ' o' := hr ▸ hb ▸ h
/-- return, nothing else may have changed -/
theorem xret {X : Cx} {E : XK} {e : Expr} {ρ : En} {x y : Rs} {pos : Pos} {rest : List Stmt} (he : QV X e ρ x) (hx : x = y := by rfl) : EXs X [] E (.Return (some e) pos :: rest) ρ (.rt y []) := hx ▸ exs_stop (ex_ret he pinsAt_nil)
theorem xretV {X : Cx} {E : XK} {e : Expr} {ρ : En} {x y : Rs} {pos : Pos} {rest : List Stmt} {i : Nat} (h : PE X e (tVar i)) (hi : ρ[i]? = some (.ow x) := by rfl) (hx : x = y := by rfl) : EXs X [] E (.Return (some e) pos :: rest) ρ (.rt y []) := hx ▸ exs_stop (ex_retV h hi pinsAt_nil)
/-- parts of the text -/
def atS (ss : List Stmt) (i : Nat) : Stmt := ss.getD i (.Pass ⟨0, 0, 0, 0⟩)
def bodyOf : Stmt → List Stmt
  | .For _ _ b _ _ => b
  | .While _ b _ _ => b
  | .If _ b _ _ => b
  | _ => []
def elseOf : Stmt → List Stmt
  | .If _ _ b _ => b
  | _ => []
/-! ### the end -/
section
variable {P : Program} {w : World} {K : PySem.W.Frag} {mg : Str → Option Value} {base : Heap}
theorem df_mk {h : Heap} {n : Str} {st : Stmt} {f : Addr} {oc : Value} {od an : Option Addr} {osl : Array (Option Value)} {kV doc pm cdv ct : Value} (X : K.In h) (G : h.Ns mainGlobals mg) (a : PySem.W.nsIn K mainGlobals n = some (some (.ref f)))
    (l : K.lookup f = some ⟨oc, od, .func (PySem.W.fnOf n n (defArgs st) (defBody st) (defScope st) .none kV doc pm an cdv ct), osl⟩) (c : PySem.W.codeIn K cdv n = true) (k : PySem.W.keepIn K (.ref f) = true) : Df K mg n st :=
  ⟨f, _, PySem.W.mg_of X G a, fun_mk l c k⟩
def spLaw (K : PySem.W.Frag) : Sp := fun vs H Q _ => ∃ (a : Addr) (ns : List Int), vs = [.ref a] ∧ SqL K H a (ns.map V.int) ∧ ns.length ≤ 63 ∧ ∀ H', Q (.bl true) H'
theorem dp_ints {H : Hp} : ∀ ns : List Int, DpAll K H (ns.map V.int) (ns.map .int)
  | [] => .nil
  | i :: ns => .cons (.int i) (dp_ints ns)
theorem law_fn {l : PySem.W.OpenLaw} {k : Nat} {fa : Addr} {st : Stmt} (D : Df K mg "law" st)
    (hb : ∀ (kV doc pm : Value) (an : Option Addr) (cdv ct : Value) (us : List Value), us.length = 1 → bindArgs (PySem.W.fnOf "law" "law" (defArgs st) (defBody st) (defScope st) .none kV doc pm an cdv ct) ⟨us, []⟩ = pure ((["_law_script"] : List Str).zip us))
    (hfa : mg "law" = some (.ref fa))
    (G : ∀ base : Heap, K.In base → base.Ns mainGlobals mg → ∀ f fd, Fun K "law" "law" st f fd → FnOk l.prog w K mg base CX0 k f fd ["_law_script"] (spQ K (fun as x => ∃ ns : List Int, ns.length ≤ 63 ∧ as = [.da (.list (ns.map .int))] ∧ x = .da (.bool true)))) :
    ∃ fd : FuncData, (∀ (s : Shared) (v : Value), BindsTo s fd ⟨[v], []⟩ [("_law_script", v)]) ∧ ∀ base : Heap, K.In base → base.Ns mainGlobals mg → FnOk l.prog w K mg base CX0 k fa fd ["_law_script"] (spLaw K) := by
  obtain ⟨f, fd, hm, Fu⟩ := D
  have e := hfa.symm.trans hm
  cases e
  refine ⟨fd, fun s v => ?_, fun base h1 h2 => (G base h1 h2 _ _ Fu).imp fun vs H Q E h => ?_⟩
  · obtain ⟨oc, od, kV, doc, pm, an, cdv, ct, osl, rfl, lk, hcd⟩ := Fu.ex
    exact .of_eq (hb kV doc pm an cdv ct [v] rfl)
  · obtain ⟨a, ns, rfl, hS, hlen, k⟩ := h
    refine ⟨H, _, _, .refl _, .cons (.da (.lst hS (dp_ints ns))) .nil, ⟨ns, hlen, rfl, rfl⟩, fun v Hs' H' fp e o _ _ => ?_⟩
    cases o with
    | da o => rw [dp_bool o]; exact k H'
theorem law_walk {l : PySem.W.OpenLaw} {k : Nat} {q : Program} {loose : List Str} {XP : (Str → Option Value) → Heap → Prop} {YP : World → Heap → Prop} {d : DefRec} {K : Params → PySem.W.Frag} (hk : k ≤ 60) (hn : l.most = some 63) (hdf : d.params.defaults = [])
    (hY : ∀ (w : World) (h : Heap), YP w h → (K w.params).In h)
    (F : ∀ (w : World) (mg : Str → Option Value) (fa : Addr) (h : Heap), (K w.params).In h → h.Ns mainGlobals mg → mg d.name = some (.ref fa) →
      ∃ fd : FuncData, (∀ (s : Shared) (u : Value), BindsTo s fd ⟨[u], []⟩ [("_law_script", u)]) ∧ ∀ base : Heap, (K w.params).In base → base.Ns mainGlobals mg → FnOk l.prog w (K w.params) mg base CX0 k fa fd ["_law_script"] (spLaw (K w.params))) :
    PySem.W.WalkO q loose XP YP l.row.toRowW d [] (fun f vs => PySem.call f vs) :=
  L2.walk_of (n := 63) (k := k) (x := "_law_script") (CX := fun _ => CX0) (sp := fun w => spLaw (K w.params)) hn (by decide) hdf (Room.mono (k := 60) ⟨rfl, by decide, by decide⟩ hk) hY F (fun _ _ a ns hl _ hS => ⟨a, ns, rfl, hS, hl, fun _ => rfl⟩) fun _ _ _ _ _ z => z
end
end Bg

namespace Bg
open PySem L2
section
variable {X : Cx} {mk : List Bool} {E : XK} {ρ : En} {e a b c elt iter : Expr} {es' rest : List Expr} {x y r : Rs} {d d1 d2 : PyData} {ds es : List PyData} {pos pp : Pos} {i : Nat}
/-- the context of a comprehension's block -/
abbrev bk (X : Cx) (s : Shared) (H : Hp) (scope : Scope) (C : Addr) (cl : List (Str × Addr)) (fp : List Addr) : Cx := X.blk s H scope (compEnvC scope cl C X.env) fp
theorem envQ_blk {K : PySem.W.Frag} {Hs H : Hp} {σ : St} {v : V} (env : EnvQ K Hs H σ ρ) (dv : Dp K Hs v d) (hi : i < σ.length) : EnvQ K Hs H ((wipe σ [i]).set i (some v)) (ρ.set i (.ow (.da d))) := by
  refine ⟨env.sub, fun j s r h1 h2 => ?_⟩
  by_cases hj : i = j
  · subst hj
    have hl : i < ρ.length := by
      have := (List.getElem?_eq_some_iff.mp h1).1
      simpa using this
    rw [List.getElem?_set_self hl] at h1
    cases h1
    cases h2
    exact ⟨v, [], by rw [List.getElem?_set_self (by rw [wipe_length]; exact hi)], .da dv⟩
  · rw [List.getElem?_set_ne hj] at h1
    obtain ⟨w, fp, q, o⟩ := env.sl j s r h1 h2
    refine ⟨w, fp, ?_, o⟩
    rw [List.getElem?_set_ne hj]
    show ((σ).set i none)[j]? = _
    rw [List.getElem?_set_ne hj]
    exact q
def tEl (K : PySem.W.Frag) (ρ : En) (i : Nat) (ds : List PyData) (rs : List (Option PyData)) : TE := fun σ H Q => ∃ (j : Nat) (d y : PyData), ds[j]? = some d ∧ rs[j]? = some (some y) ∧ tQ K (ρ.set i (.ow (.da d))) (.da y) σ H Q
def tTs (K : PySem.W.Frag) (ρ : En) (i : Nat) (ds : List PyData) (rs : List (Option PyData)) : TT := fun σ H Q => ∃ (j : Nat) (d : PyData) (y : Option PyData), ds[j]? = some d ∧ rs[j]? = some y ∧ tQT K (ρ.set i (.ow (.da d))) y.isSome σ H Q
/-- the reading of a comprehension with tests -/
theorem tlc_ok {K : PySem.W.Frag} {σ : St} {H : Hp} {Q : VK} {wi : TI} {tt : TT} {te : TE} {Hs : Hp} {rs : List (Option PyData)} (env : EnvQ K Hs H σ ρ) (hi : i < σ.length) (hlen : rs.length = ds.length) (hz : ds.length ≤ 100000)
    (hw : ∀ R, tIt K ρ ds σ H R → wi σ H R)
    (ht : ∀ (j : Nat) (d : PyData) (y : Option PyData) σ' H' Q', ds[j]? = some d → rs[j]? = some y → tQT K (ρ.set i (.ow (.da d))) y.isSome σ' H' Q' → tt σ' H' Q')
    (he : ∀ (j : Nat) (d y : PyData) σ' H' Q', ds[j]? = some d → rs[j]? = some (some y) → tQ K (ρ.set i (.ow (.da d))) (.da y) σ' H' Q' → te σ' H' Q')
    (k : ∀ v Hs' H' fp, Ext Hs H Hs' H' → Own K Hs' H' v (.lst (rs.filterMap id)) fp → fp.Nodup → (∀ a ∈ fp, H a = none ∧ Hs' a = none) → Q v H') : tLc wi (gName i) tt te [i] σ H Q := by
  refine hw _ ⟨Hs, env, fun J Hs1 H1 e1 wk D hD => ?_⟩
  have nD : Hs1 D = none := e1.sub.free hD
  refine ⟨fun j m H' => ∃ Hs' acc, m = ds.length - j ∧ j ≤ ds.length ∧ Ext Hs1 H1 Hs' H' ∧ Hs' D = none ∧ H' D = some (.lst acc) ∧ DpAll K Hs' acc ((rs.take j).filterMap id),
    ⟨_, Hs1, [], rfl, Nat.zero_le _, Ext.more e1.sub hD, nD, upd_same, by rw [List.take_zero]; exact .nil⟩, ?_⟩
  rintro j m H' ⟨Hs', acc, rfl, hj, e2, nD', hacc, dacc⟩
  obtain ⟨wg, ws⟩ := wk Hs' H' e2.data e2.sub
  by_cases hlt : j < ds.length
  · have hdj : ds[j]? = some ds[j] := List.getElem?_eq_getElem hlt
    have hrl : j < rs.length := by omega
    have hrj : rs[j]? = some rs[j] := List.getElem?_eq_getElem hrl
    obtain ⟨g, y⟩ := wg j _ hdj
    have tk : (rs.take (j + 1)).filterMap id = (rs.take j).filterMap id ++ (match rs[j] with | some z => [z] | none => []) := by
      rw [List.take_add_one, hrj, List.filterMap_append]
      cases rs[j] <;> rfl
    have accl : acc.length ≤ 100000 := by
      rw [dpAll_length dacc]
      exact Nat.le_trans (List.length_filterMap_le ..) (by rw [List.length_take]; omega)
    refine .inr ⟨g, fun H2 => ∃ Hs2 acc2, Ext Hs1 H1 Hs2 H2 ∧ Hs2 D = none ∧ H2 D = some (.lst acc2) ∧ DpAll K Hs2 acc2 ((rs.take (j + 1)).filterMap id), fun H2 ⟨Hs2, acc2, q1, q2, q3, q4⟩ => ⟨ds.length - (j + 1), by omega, Hs2, acc2, rfl, hlt, q1, q2, q3, q4⟩, fun x H3 yl => ?_⟩
    obtain ⟨rfl, dx⟩ := y x H3 yl
    have env2 : EnvQ K Hs' H3 ((wipe σ [i]).set i (some x)) (ρ.set i (.ow (.da ds[j]))) := envQ_blk (envQ_ext (e1.trans e2) env) dx hi
    refine ⟨?_, ?_⟩
    · show (((σ).set i none).set i (some x)).set i none = (σ).set i none
      rw [List.set_set, List.set_set]
    · refine ht j _ _ _ _ _ hdj hrj ⟨Hs', env2, fun Hs3 H4 e3 => ?_⟩
      have nD3 : Hs3 D = none := by
        cases q : Hs3 D with
        | none => rfl
        | some o =>
          rcases e3.new D o q with z | z
          · rw [nD'] at z; cases z
          · rw [hacc] at z; cases z
      cases hr : rs[j] with
      | none =>
        refine iteF ⟨Hs3, acc, e2.trans e3, nD3, e3.all _ _ hacc, ?_⟩
        rw [tk, hr, List.append_nil]
        exact dpAll_mono e3.data dacc
      | some z =>
        refine iteT (he j _ z _ _ _ hdj (by rw [hrj, hr]) (tq_data (envQ_ext e3 env2) fun v Hs5 H5 e5 dv => ?_))
        have nD5 : Hs5 D = none := by
          cases q : Hs5 D with
          | none => rfl
          | some o =>
            rcases e5.new D o q with z | z
            · rw [nD3] at z; cases z
            · rw [e3.all _ _ hacc] at z; cases z
        have e6 := (e2.trans e3).trans e5
        refine ⟨acc, e5.all _ _ (e3.all _ _ hacc), Nat.lt_of_le_of_lt accl (by decide), Hs5, acc ++ [v], ⟨e6.data, fun b o z => ?_, fun b o z => ?_, e6.new⟩, nD5, upd_same, ?_⟩
        · rw [upd_ne (ne_of_none z hD)]; exact e6.all b o z
        · have : b ≠ D := fun q => by rw [q, nD5] at z; cases z
          rw [upd_ne this]; exact e6.sub b o z
        · rw [tk, hr]
          exact dpAll_append (dpAll_mono e5.data (dpAll_mono e3.data dacc)) (.cons dv .nil)
  · have hje : j = ds.length := by omega
    subst hje
    refine .inl ⟨ws _ (Nat.le_refl _), ?_⟩
    rw [← hlen, List.take_length] at dacc
    exact k (.ref D) Hs' H' [D] (e1.trans e2) (.lst hacc dacc) (by simp) fun a m => by
      have z : a = D := by simpa using m
      subst z
      exact ⟨e1.all.free hD, nD'⟩
theorem fm_some (es : List PyData) : (es.map some).filterMap id = es := by
  induction es with
  | nil => rfl
  | cons a t ih => simp [ih]
/-- [elt for n in iter] -/
theorem q_lc {n : Str} {scope : Scope} (hc : X.calm = true) (hN : X.N.Nodup) (hi : X.N[i]? = some n) (hI : ITR X (.Name n pp) iter ρ ds) (ok : BlkOk X.N X.env.scope scope [(n, i)])
    (hg : ∀ (s : Shared) (H : Hp) (C : Addr) (cl : List (Str × Addr)) (fp : List Addr), PG (bk X s H scope C cl fp) (.Name n pp) (gName i))
    (hlen : es.length = ds.length) (hz : ds.length ≤ 100000)
    (he : ∀ (s : Shared) (H : Hp) (C : Addr) (cl : List (Str × Addr)) (fp : List Addr) (j : Nat) (d y : PyData), ds[j]? = some d → es[j]? = some y → QD (bk X s H scope C cl fp) elt (ρ.set i (.ow (.da d))) y)
    (hs : ∀ x, foldedSetIterable iter X.env x = pure x := by intro _; rfl) : QV X (.ListComp elt [⟨.Name n pp, iter, [], 0⟩] scope pos) ρ (.lst es) := by
  have he' : ∀ (s : Shared) (H : Hp) (C : Addr) (cl : List (Str × Addr)) (fp : List Addr), PE (bk X s H scope C cl fp) elt (tEl X.K ρ i ds (es.map some)) := fun s H C cl fp => ⟨fun pins s' σ H' Q I ⟨j, d, y, h1, h2, t⟩ => (he s H C cl fp j d y h1 (by
      rw [List.getElem?_map] at h2
      cases q : es[j]? with
      | none => rw [q] at h2; cases h2
      | some z => rw [q] at h2; simpa using h2)).run pins s' σ H' Q I t⟩
  have hp := pe_lc (pos := pos) (own := [(n, i)]) hc hN hI ok hg (fun _ _ _ _ _ => pts_nil) he' hs
  refine ⟨fun pins s σ H Q I ⟨Hs, env, k⟩ => hp.run pins s σ H Q I ?_⟩
  have hi' : i < σ.length := by rw [I.len]; exact (List.getElem?_eq_some_iff.mp hi).1
  exact tlc_ok (rs := es.map some) env hi' (by simpa using hlen) hz (fun R t => t) (fun j d y σ' H' Q' _ h2 ⟨Hs', env', k'⟩ => by
      rw [List.getElem?_map] at h2
      cases q : es[j]? with
      | none => rw [q] at h2; cases h2
      | some z =>
        rw [q] at h2
        cases h2
        exact k' Hs' H' (.refl env'.sub)) (fun j d y σ' H' Q' h1 h2 t => ⟨j, d, y, h1, h2, t⟩) (by rw [fm_some]; exact k)
/-- y = [elt for n in iter], on one line -/
theorem ex_setLc {n yn : Str} {scope : Scope} {py spos : Pos} {m : Nat} (hc : X.calm = true) (hN : X.N.Nodup) (hy : X.N[m]? = some yn) (hyl : X.env.scope.names.lookup yn = some .local)
    (hsw : swapsWith (.ListComp elt [⟨.Name n pp, iter, [], 0⟩] scope pos) (some (.Name yn py)) spos.line X.env = pure true) (hi : X.N[i]? = some n) (hI : ITR X (.Name n pp) iter ρ ds) (ok : BlkOk X.N X.env.scope scope [(n, i)])
    (hg : ∀ (s : Shared) (H : Hp) (C : Addr) (cl : List (Str × Addr)) (fp : List Addr), PG (bk X s H scope C cl fp) (.Name n pp) (gName i))
    (hlen : es.length = ds.length) (hz : ds.length ≤ 100000)
    (he : ∀ (s : Shared) (H : Hp) (C : Addr) (cl : List (Str × Addr)) (fp : List Addr) (j : Nat) (d y : PyData), ds[j]? = some d → es[j]? = some y → QD (bk X s H scope C cl fp) elt (ρ.set i (.ow (.da d))) y)
    (hl : Nat.ble (m + 1) ρ.length = true := by rfl) (hp : mk[m]? ≠ some true := by decide)
    (hs : ∀ x, foldedSetIterable iter X.env x = pure x := by intro _; rfl) : EX X mk E (.Assign [.Name yn py] (.ListComp elt [⟨.Name n pp, iter, [], 0⟩] scope pos) spos) ρ (.nx (ρ.set m (.ow (.lst es)))) := by
  have he' : ∀ (s : Shared) (H : Hp) (C : Addr) (cl : List (Str × Addr)) (fp : List Addr), PE (bk X s H scope C cl fp) elt (tEl X.K ρ i ds (es.map some)) := fun s H C cl fp => ⟨fun pins s' σ H' Q I ⟨j, d, y, h1, h2, t⟩ => (he s H C cl fp j d y h1 (by
      rw [List.getElem?_map] at h2
      cases q : es[j]? with
      | none => rw [q] at h2; cases h2
      | some z => rw [q] at h2; simpa using h2)).run pins s' σ H' Q I t⟩
  have hps := ps_setLc (pos := pos) (spos := spos) (own := [(n, i)]) hc hN hy hyl hsw hI ok hg (fun _ _ _ _ _ => pts_nil) he' hs
  refine ⟨fun pins s σ H D I ⟨g, Hs, env, k⟩ => hps.run pins s σ H D I ?_⟩
  have hi' : i < σ.length := by rw [I.len]; exact (List.getElem?_eq_some_iff.mp hi).1
  refine tlc_ok (rs := es.map some) (env_q env) hi' (by simpa using hlen) hz (fun R t => t) (fun j d y σ' H' Q' _ h2 ⟨Hs', env', k'⟩ => by
      rw [List.getElem?_map] at h2
      cases q : es[j]? with
      | none => rw [q] at h2; cases h2
      | some z =>
        rw [q] at h2
        cases h2
        exact k' Hs' H' (.refl env'.sub)) (fun j d y σ' H' Q' h1 h2 t => ⟨j, d, y, h1, h2, t⟩) (fun v Hs1 H1 fp e1 o n f => ?_)
  rw [fm_some] at o
  exact k _ Hs1 H1 e1.data (env_set (env_new e1 env o n f) (Nat.le_of_ble_eq_true hl) hp)
/-- with one test; rs: what each item gives, or nothing -/
theorem q_lcIf {n : Str} {scope : Scope} {t : Expr} {rs : List (Option PyData)} (hc : X.calm = true) (hN : X.N.Nodup) (hi : X.N[i]? = some n) (hI : ITR X (.Name n pp) iter ρ ds) (ok : BlkOk X.N X.env.scope scope [(n, i)])
    (hg : ∀ (s : Shared) (H : Hp) (C : Addr) (cl : List (Str × Addr)) (fp : List Addr), PG (bk X s H scope C cl fp) (.Name n pp) (gName i))
    (hlen : rs.length = ds.length) (hz : ds.length ≤ 100000)
    (ht : ∀ (s : Shared) (H : Hp) (C : Addr) (cl : List (Str × Addr)) (fp : List Addr) (j : Nat) (d : PyData) (y : Option PyData), ds[j]? = some d → rs[j]? = some y → QT (bk X s H scope C cl fp) t (ρ.set i (.ow (.da d))) y.isSome)
    (he : ∀ (s : Shared) (H : Hp) (C : Addr) (cl : List (Str × Addr)) (fp : List Addr) (j : Nat) (d y : PyData), ds[j]? = some d → rs[j]? = some (some y) → QD (bk X s H scope C cl fp) elt (ρ.set i (.ow (.da d))) y)
    (hs : ∀ x, foldedSetIterable iter X.env x = pure x := by intro _; rfl) : QV X (.ListComp elt [⟨.Name n pp, iter, [t], 0⟩] scope pos) ρ (.lst (rs.filterMap id)) := by
  have he' : ∀ (s : Shared) (H : Hp) (C : Addr) (cl : List (Str × Addr)) (fp : List Addr), PE (bk X s H scope C cl fp) elt (tEl X.K ρ i ds rs) := fun s H C cl fp => ⟨fun pins s' σ H' Q I ⟨j, d, y, h1, h2, t⟩ => (he s H C cl fp j d y h1 h2).run pins s' σ H' Q I t⟩
  have ht' : ∀ (s : Shared) (H : Hp) (C : Addr) (cl : List (Str × Addr)) (fp : List Addr), PTs (bk X s H scope C cl fp) [t] (tTs X.K ρ i ds rs) := fun s H C cl fp => pts_one ⟨fun pins s' σ H' Q I ⟨j, d, y, h1, h2, t⟩ => (ht s H C cl fp j d y h1 h2).run pins s' σ H' Q I t⟩
  have hp := pe_lc (pos := pos) (own := [(n, i)]) hc hN hI ok hg ht' he' hs
  refine ⟨fun pins s σ H Q I ⟨Hs, env, k⟩ => hp.run pins s σ H Q I ?_⟩
  have hi' : i < σ.length := by rw [I.len]; exact (List.getElem?_eq_some_iff.mp hi).1
  exact tlc_ok (rs := rs) env hi' hlen hz (fun R t => t) (fun j d y σ' H' Q' h1 h2 t => ⟨j, d, y, h1, h2, t⟩) (fun j d y σ' H' Q' h1 h2 t => ⟨j, d, y, h1, h2, t⟩) k
end
end Bg

namespace Bg
open PySem L2
section
variable {X : Cx} {mk : List Bool} {E : XK} {ρ : En} {e a b c o : Expr} {es' rest : List Expr} {x y r : Rs} {d d1 d2 : PyData} {ds es : List PyData} {pos pp : Pos} {i : Nat}
/-! ### slices of lists -/
def cutG {α : Type} (xs : List α) (lo hi : Option Int) : List α := (xs.drop (HT.sIx xs.length 0 lo)).take (HT.sIx xs.length xs.length hi - HT.sIx xs.length 0 lo)
theorem dpAll_cut {K : PySem.W.Frag} {H : Hp} {xs : List V} (h : DpAll K H xs ds) (lo hi : Option Int) : DpAll K H (cutV xs lo hi) (cutG ds lo hi) := by
  unfold cutV cutG
  rw [dpAll_length h]
  exact dpAll_take _ (dpAll_drop _ h)
/-- a part of a slice -/
def QO (X : Cx) (e : Option Expr) (ρ : En) (z : Option Int) : Prop := PO X e (fun σ H Q => ∃ Hs, EnvQ X.K Hs H σ ρ ∧ ∀ Hs' H', Ext Hs H Hs' H' → Q z H')
theorem qo_none : QO X none ρ none := ⟨fun pins s σ H Q I ⟨Hs, env, k⟩ => po_none.run pins s σ H Q I (k Hs H (.refl env.sub))⟩
theorem qo_some {k : Int} (h : QD X e ρ (.int k)) : QO X (some e) ρ (some k) := ⟨fun pins s σ H Q I ⟨Hs, env, q⟩ => (po_some h).run pins s σ H Q I (tq_data env fun v Hs1 H1 e1 dv => ⟨k, dp_int dv, q Hs1 H1 e1⟩)⟩
/-- a list that may be read: data, or one that may change -/
def lsOf : Rs → Option (List PyData)
  | .da (.list ds) => some ds
  | .lst ds => some ds
  | _ => none
theorem own_ls {K : PySem.W.Frag} {Hs H : Hp} {v : V} {fp : List Addr} (s : Same Hs H) (h : Own K Hs H v r fp) (hl : lsOf r = some ds) : ∃ a xs, v = .ref a ∧ SqL K H a xs ∧ DpAll K Hs xs ds := by
  cases h with
  | da h =>
    cases h with
    | lst h1 h2 => cases hl; exact ⟨_, _, rfl, s.seq h1, h2⟩
    | _ => cases hl
  | lst h1 h2 => cases hl; exact ⟨_, _, rfl, SqL.of h1, h2⟩
  | _ => cases hl
theorem q_slice {lo hi : Option Expr} {zl zh : Option Int} {p2 : Pos} (ha : QA X e ρ r) (hl : QO X lo ρ zl) (hh : QO X hi ρ zh) (hls : lsOf r = some ds) : QV X (.Subscript e (.Slice lo hi none p2) pos) ρ (.lst (cutG ds zl zh)) :=
  pe_imp (pe_slice sl_list ha hl hh) fun σ H Q ⟨Hs, env, k⟩ => by
    refine ⟨Hs, env, fun v Hs1 H1 fp e1 ow => ⟨Hs1, envQ_ext e1 env, fun Hs2 H2 e2 => ⟨Hs2, envQ_ext (e1.trans e2) env, fun Hs3 H3 e3 => ?_⟩⟩⟩
    obtain ⟨a, xs, rfl, q1, q2⟩ := own_ls e1.sub ow hls
    have e4 := e2.trans e3
    refine ⟨a, xs, rfl, e4.all.seq q1, fun p np => ?_⟩
    have e5 : Ext Hs3 H3 Hs3 (upd H3 p (.lst (cutV xs zl zh))) := Ext.more e4.sub np
    refine k _ _ _ [p] ((e1.trans e4).trans e5) (.lst upd_same (dpAll_cut (dpAll_mono e4.data q2) _ _)) (by simp) fun b m => ?_
    have z : b = p := by simpa using m
    subst z
    exact ⟨(e1.trans e4).all.free np, e4.sub.free np⟩
/-- x[k] = e, x a list of one's own -/
theorem ex_setItem {ix : Expr} {k : Int} {j : Nat} {tpos : Pos} (ho : PE X o (tVar i)) (hi : ρ[i]? = some (.ow (.lst ds))) (he : QD X e ρ d) (hx : QD X ix ρ (.int k)) (hj : ixN ds.length k = some j)
    (ha : ∀ v, assign (.Subscript o ix tpos) X.env v = (do
      let ov ← holding [v] (eval o X.env)
      let iv ← holding [v, ov] (eval ix X.env)
      standAt tpos
      holding [v, ov, iv] (setItem ov iv v)
      release [v, ov, iv] []) := by intro _; rfl)
    (hs : swapsWithSole [.Subscript o ix tpos] e pos.line X.env = pure false := by rfl) (hw : swappedStores [.Subscript o ix tpos] e X.env = pure none := by rfl)
    (h1 : (assignEach [.Subscript o ix tpos] X.env).map (·.2) = [assign (.Subscript o ix tpos) X.env] := by rfl) :
    EX X mk E (.Assign [.Subscript o ix tpos] e pos) ρ (.nx (ρ.set i (.ow (.lst (ds.set j d))))) :=
  ps_imp (ps_asg he (pg_sub ho hx set_list ha) hs hw h1) fun D σ H ⟨g, Hs, env, k⟩ => by
    refine tq_data (env_q env) fun v Hs1 H1 e1 dv => ?_
    have env1 := env_ext e1 env
    obtain ⟨a, xs, q1, q2, q3, _⟩ := env_lst env1 hi
    refine ⟨.ref a, q1, tq_data (env_q env1) fun w Hs2 H2 e2 dw => ?_⟩
    obtain ⟨a', xs', q1', q2', q3', f⟩ := env_lst (env_ext e2 env1) hi
    rw [q1] at q1'; cases q1'
    rw [dp_int dw]
    exact ⟨a, xs', _, j, rfl, rfl, q2', by rw [dpAll_length q3']; exact hj, k σ Hs2 _ (e1.data.trans e2.data) (f _ _ (dpAll_set j q3' (dp_mono e2.data dv)))⟩
/-- sep.join(a list of texts) -/
theorem dpAll_strs {K : PySem.W.Frag} {H : Hp} : ∀ {vs : List V} {ys : List Str}, DpAll K H vs (ys.map .str) → vs = ys.map V.str
  | [], [], _ => rfl
  | v :: vs, y :: ys, h => by
    cases h with
    | cons h t => rw [dp_str h, dpAll_strs t]; rfl
  | [], _ :: _, h => by cases h
  | _ :: _, [], h => by cases h
theorem q_join {apos : Pos} {z : Str} {ys : List Str} (ho : QD X o ρ (.str z)) (ha : QA X e ρ r) (hl : lsOf r = some (ys.map .str)) (hz : (ys.map (·.length)).sum + ys.length * z.length ≤ 16777216)
    (hs : starEach [e] X.env = [(false, eval e X.env)] := by rfl) (hbase : attributeBase o "join" X.env (eval o X.env) = eval o X.env := by rfl) (hline : (apos.endLine == pos.line) = true := by rfl) :
    QD X (.Call (.Attribute o "join" apos) [e] [] pos) ρ (.str (Txt.join z ys)) :=
  pe_imp (pe_join ho ha hs hbase hline) fun σ H Q ⟨Hs, env, k⟩ => tq_data env fun v Hs1 H1 e1 dv => by
    refine ⟨⟨_, dp_str dv⟩, Hs1, envQ_ext e1 env, fun w Hs2 H2 fp e2 ow => ?_⟩
    obtain ⟨a, xs, rfl, q1, q2⟩ := own_ls e2.sub ow hl
    rw [dpAll_strs q2] at q1
    exact ⟨z, a, ys, dp_str dv, rfl, .inl q1, hz, kdata k (e1.trans e2) (.str _)⟩
theorem q_ltS {s t : Str} (ha : QD X a ρ (.str s)) (hb : QD X b ρ (.str t)) : QD X (.Compare a [.Lt] [b] pos) ρ (.bool (decide (s.cps.toList < t.cps.toList))) :=
  q_cmp op_lt_str ha hb (nomark _) fun v w Hs H Q h1 h2 _ k => by rw [dp_str h1, dp_str h2]; exact ⟨s, t, rfl, rfl, k _ (.bl _)⟩
end
end Bg

namespace Bg
open PySem L2
/-! ### fractions as data -/
def qD (q : Rat) : PyData := .tuple [.int q.num, .int q.den]
theorem natAbs_gcd_pos {a b : Int} (hb : 0 < b) : 0 < Int.gcd a b := Int.gcd_pos_of_ne_zero_right _ (by omega)
theorem qD_low {a b : Int} (hb : 0 < b) : PyData.tuple [.int (a / (Int.gcd a b : Int)), .int (b / (Int.gcd a b : Int))] = qD ((a : Rat) / (b : Rat)) := by
  rw [← Rat.divInt_eq_div]
  unfold qD
  rw [Rat.num_divInt, Rat.den_divInt, Int.sign_eq_one_of_pos hb, Int.one_mul, if_neg (by omega), Int.gcd_comm b a]
  have e : ((b.natAbs / Int.gcd a b : Nat) : Int) = b / (Int.gcd a b : Int) := by
    rw [Int.natCast_ediv]
    congr 1
    omega
  rw [e]
/-- numerator and denominator below 2 ^ n -/
def Sz (n : Nat) (q : Rat) : Prop := q.num.natAbs < 2 ^ n ∧ q.den < 2 ^ n
theorem Sz.mono {n m : Nat} {q : Rat} (h : Sz n q) (hm : n ≤ m) : Sz m q := by
  have : 2 ^ n ≤ 2 ^ m := Nat.pow_le_pow_right (by decide) hm
  exact ⟨Nat.lt_of_lt_of_le h.1 this, Nat.lt_of_lt_of_le h.2 this⟩
theorem Sz.div {n : Nat} {a b : Int} (hb : 0 < b) (ha : a.natAbs < 2 ^ n) (hb' : b.natAbs < 2 ^ n) : Sz n ((a : Rat) / (b : Rat)) := by
  rw [← Rat.divInt_eq_div]
  unfold Sz
  rw [Rat.num_divInt, Rat.den_divInt, Int.sign_eq_one_of_pos hb, Int.one_mul, if_neg (by omega)]
  refine ⟨Nat.lt_of_le_of_lt ?_ ha, Nat.lt_of_le_of_lt (Nat.div_le_self _ _) hb'⟩
  have hd : ((b.gcd a : Nat) : Int) ∣ a := Int.gcd_dvd_right ..
  rw [Int.natAbs_ediv_of_dvd hd]
  exact Nat.div_le_self _ _
theorem rat_eq (q : Rat) : q = (q.num : Rat) / ((q.den : Int) : Rat) := by
  rw [← Rat.divInt_eq_div, Rat.num_divInt_den]
theorem den_pos (q : Rat) : (0 : Int) < q.den := by have := q.den_nz; omega
theorem den_ne (q : Rat) : ((q.den : Int) : Rat) ≠ 0 := by
  have := q.den_nz
  intro h
  have : (q.den : Int) = 0 := by exact_mod_cast h
  omega
theorem f_add {a b c d : Rat} (hb : b ≠ 0) (hd : d ≠ 0) : a / b + c / d = (a * d + c * b) / (b * d) := by grind
theorem f_sub {a b c d : Rat} (hb : b ≠ 0) (hd : d ≠ 0) : a / b - c / d = (a * d - c * b) / (b * d) := by grind
theorem f_mid {a b c d : Rat} (hb : b ≠ 0) (hd : d ≠ 0) : (a / b + c / d) / 2 = (a * d + c * b) / (2 * b * d) := by grind
theorem f_mul {a b k : Rat} : a / b * k = a * k / b := by grind
theorem rat_add (p q : Rat) : p + q = ((p.num * q.den + q.num * p.den : Int) : Rat) / ((p.den * q.den : Int) : Rat) := by
  conv => lhs; rw [rat_eq p, rat_eq q]
  rw [Rat.intCast_add, Rat.intCast_mul, Rat.intCast_mul, Rat.intCast_mul]
  exact f_add (den_ne p) (den_ne q)
theorem rat_sub (p q : Rat) : p - q = ((p.num * q.den - q.num * p.den : Int) : Rat) / ((p.den * q.den : Int) : Rat) := by
  conv => lhs; rw [rat_eq p, rat_eq q]
  rw [Rat.intCast_sub, Rat.intCast_mul, Rat.intCast_mul, Rat.intCast_mul]
  exact f_sub (den_ne p) (den_ne q)
theorem rat_muli (p : Rat) (k : Int) : p * k = ((p.num * k : Int) : Rat) / ((p.den : Int) : Rat) := by
  conv => lhs; rw [rat_eq p]
  rw [Rat.intCast_mul]
  exact f_mul
theorem rat_mid (p q : Rat) : (p + q) / 2 = ((p.num * q.den + q.num * p.den : Int) : Rat) / ((2 * p.den * q.den : Int) : Rat) := by
  conv => lhs; rw [rat_eq p, rat_eq q]
  rw [Rat.intCast_add, Rat.intCast_mul, Rat.intCast_mul, Rat.intCast_mul, Rat.intCast_mul]
  exact f_mid (den_ne p) (den_ne q)
/-! ### sizes -/
theorem nlt_mul {a b : Int} {n m : Nat} (ha : a.natAbs < 2 ^ n) (hb : b.natAbs < 2 ^ m) : (a * b).natAbs < 2 ^ (n + m) := wide_lt ha hb
theorem nlt_add {a b : Int} {n : Nat} (ha : a.natAbs < 2 ^ n) (hb : b.natAbs < 2 ^ n) : (a + b).natAbs < 2 ^ (n + 1) := by
  rw [Nat.pow_succ]; omega
theorem nlt_sub {a b : Int} {n : Nat} (ha : a.natAbs < 2 ^ n) (hb : b.natAbs < 2 ^ n) : (a - b).natAbs < 2 ^ (n + 1) := by
  rw [Nat.pow_succ]; omega
theorem nlt_mono {a : Int} {n m : Nat} (ha : a.natAbs < 2 ^ n) (h : n ≤ m) : a.natAbs < 2 ^ m := Nat.lt_of_lt_of_le ha (Nat.pow_le_pow_right (by decide) h)
theorem cmul_of {a b : Int} {n m : Nat} (ha : a.natAbs < 2 ^ n) (hb : b.natAbs < 2 ^ m) (h : n + m ≤ 900000) : CMulW a b :=
  wide_mul (a := n + 1) (b := m + 1) (nlt_mono ha (by omega)) (nlt_mono hb (by omega)) (by omega) (by omega) (by omega)
theorem cdiv_of {a b : Int} {m : Nat} (h : 0 < b) (hb : b.natAbs < 2 ^ m) (hm : m ≤ 8000) : CDivW a b :=
  wide_div (b := m + 1) h (nlt_mono hb (by omega)) (by omega) (by omega)
theorem Sz.num {n : Nat} {q : Rat} (h : Sz n q) : q.num.natAbs < 2 ^ n := h.1
theorem Sz.den {n : Nat} {q : Rat} (h : Sz n q) : ((q.den : Nat) : Int).natAbs < 2 ^ n := h.2
theorem Sz.add {n m : Nat} {p q : Rat} (h1 : Sz n p) (h2 : Sz m q) : Sz (n + m + 1) (p + q) := by
  rw [rat_add]
  have a := nlt_mul h1.num h2.den
  have b := nlt_mul h2.num h1.den
  rw [Nat.add_comm m n] at b
  exact Sz.div (Int.mul_pos (den_pos p) (den_pos q)) (nlt_add a b) (nlt_mono (nlt_mul h1.den h2.den) (by omega))
theorem Sz.sub {n m : Nat} {p q : Rat} (h1 : Sz n p) (h2 : Sz m q) : Sz (n + m + 1) (p - q) := by
  rw [rat_sub]
  have a := nlt_mul h1.num h2.den
  have b := nlt_mul h2.num h1.den
  rw [Nat.add_comm m n] at b
  exact Sz.div (Int.mul_pos (den_pos p) (den_pos q)) (nlt_sub a b) (nlt_mono (nlt_mul h1.den h2.den) (by omega))
theorem Sz.muli {n m : Nat} {p : Rat} {k : Int} (h1 : Sz n p) (h2 : k.natAbs < 2 ^ m) : Sz (n + m) (p * k) := by
  rw [rat_muli]
  exact Sz.div (den_pos p) (nlt_mul h1.num h2) (nlt_mono h1.den (by omega))
end Bg

namespace Bg
open PySem L2
/-! ### the laws' draws -/
def cell (ns : List Int) (k : Nat) : Int := if h : k < ns.length then ns[k] else 5 + 17 * (k : Int)
def dgA : Int → List Int → List Int
  | _, [] => []
  | r, t :: ts => r % t :: dgA (r / t) ts
def dgOne (one : Int) (k : Nat) : Int := (one * 48271 + 10007 * ((k : Int) + 1)) % 2147483629
def dgTwo (one : Int) (k : Nat) : Int := (one * one + 69621 * one + (k : Int)) % 2147483563
def dgB : Int → Nat → List Int → List Int
  | _, _, [] => []
  | one, k, t :: ts => dgTwo (dgOne one k) k / 11 % t :: dgB (dgOne one k) (k + 1) ts
def digits (c : Int) (ss : List Int) : List Int := if 1000000000000000000 ≤ c then dgA (c - 1000000000000000000) ss else dgB (c % 2147483647) 0 ss
theorem dg_one (one : Int) (k : Nat) : 0 ≤ dgOne one k ∧ dgOne one k < 2147483629 := ⟨Int.emod_nonneg _ (by decide), Int.emod_lt_of_pos _ (by decide)⟩
theorem dg_two (one : Int) (k : Nat) : 0 ≤ dgTwo one k ∧ dgTwo one k < 2147483563 := ⟨Int.emod_nonneg _ (by decide), Int.emod_lt_of_pos _ (by decide)⟩
/-- each is below its size -/
inductive Below : List Int → List Int → Prop
  | nil : Below [] []
  | cons {x t : Int} {xs ts : List Int} : 0 ≤ x → x < t → Below xs ts → Below (x :: xs) (t :: ts)
theorem dgA_below : ∀ (ts : List Int) (r : Int), (∀ t ∈ ts, 0 < t) → Below (dgA r ts) ts
  | [], _, _ => .nil
  | t :: ts, r, h => .cons (Int.emod_nonneg _ (by have := h t (by simp); omega)) (Int.emod_lt_of_pos _ (h t (by simp))) (dgA_below ts _ fun t' m => h t' (by simp [m]))
theorem dgB_below : ∀ (ts : List Int) (r : Int) (k : Nat), (∀ t ∈ ts, 0 < t) → Below (dgB r k ts) ts
  | [], _, _, _ => .nil
  | t :: ts, r, k, h => .cons (Int.emod_nonneg _ (by have := h t (by simp); omega)) (Int.emod_lt_of_pos _ (h t (by simp))) (dgB_below ts _ _ fun t' m => h t' (by simp [m]))
theorem digits_below (c : Int) (ts : List Int) (h : ∀ t ∈ ts, 0 < t) : Below (digits c ts) ts := by
  unfold digits
  split
  · exact dgA_below ts _ h
  · exact dgB_below ts _ _ h
theorem below_len : ∀ {xs ts : List Int}, Below xs ts → xs.length = ts.length
  | _, _, .nil => rfl
  | _, _, .cons _ _ h => by simp [below_len h]
theorem below_cons {xs ts : List Int} {t : Int} (h : Below xs (t :: ts)) : ∃ x ys, xs = x :: ys ∧ 0 ≤ x ∧ x < t ∧ Below ys ts := by
  cases h with | cons a b c => exact ⟨_, _, rfl, a, b, c⟩
theorem below_nil {xs : List Int} (h : Below xs []) : xs = [] := by cases h; rfl
def rngA (lo : Nat) : Nat → List PyData
  | 0 => []
  | n + 1 => .int (lo : Nat) :: rngA (lo + 1) n
theorem rngA_eq : ∀ (n lo : Nat), rngA lo n = (List.range n).map fun i => .int ((lo + i : Nat) : Int)
  | 0, _ => rfl
  | n + 1, lo => by
    rw [rngA, rngA_eq n (lo + 1), List.range_succ_eq_map, List.map_cons, List.map_map]
    congr 1
    refine List.map_congr_left fun i _ => ?_
    show PyData.int _ = PyData.int _
    congr 2
    omega
theorem rng_A (n : Nat) : rng 0 n = rngA 0 n := by
  rw [rngA_eq]
  unfold rng
  refine List.map_congr_left fun i _ => ?_
  simp
theorem it_rangeN {X : Cx} {ρ : En} {e tg : Expr} {pos pp : Pos} {k : Nat} (hm : X.mg "range" = none) (h : QD X e ρ (.int (k : Nat))) (hk : k < 2 ^ 62 := by omega) (hg : Gl X "range" := by rfl) (hs : starEach [e] X.env = [(false, eval e X.env)] := by rfl) :
    ITR X tg (.Call (.Name "range" pp) [e] [] pos) ρ (rngA 0 k) := by
  have q := it_range (tg := tg) (pos := pos) (pp := pp) hm h (by omega) (by omega) hg hs
  rw [Int.toNat_natCast, rng_A] at q
  exact q
theorem k_int_int : kitB "int" "int" = some true := by decide +kernel
theorem k_int_bool : kitB "int" "bool" = some false := by decide +kernel
theorem k_bool_int : kitB "bool" "int" = some true := by decide +kernel
theorem k_bool_bool : kitB "bool" "bool" = some true := by decide +kernel
theorem k_tuple_tuple : kitB "tuple" "tuple" = some true := by decide +kernel
theorem k_list_list : kitB "list" "list" = some true := by decide +kernel
theorem k_str_str : kitB "str" "str" = some true := by decide +kernel
theorem atI_nat' {α : Type} {xs : List α} {k : Nat} (h : k < xs.length) : atI xs ((k : Nat) : Int) = xs[k]? := by
  unfold atI ixN
  rw [if_pos (by omega), if_pos (by omega)]
  simp
theorem cmul_small {a b : Int} (ha : a.natAbs < 18446744073709551616) (hb : b.natAbs < 18446744073709551616) : CMulW a b := cmul_of (n := 64) (m := 64) ha hb (by decide)
def fShared (as : List Rs) (x : Rs) : Prop := ∃ a b : Int, as = [.da (.int a), .da (.int b)] ∧ x = .da (.int (Int.gcd a b))
def fCell (as : List Rs) (x : Rs) : Prop := ∃ (ns : List Int) (k : Nat), as = [.da (.list (ns.map .int)), .da (.int (k : Nat))] ∧ k ≤ 1000 ∧ x = .da (.int (cell ns k))
def fWhole (as : List Rs) (x : Rs) : Prop := ∃ d : Int, as = [.da (.int d)] ∧ x = .da (.bool true)
def fDigits (as : List Rs) (x : Rs) : Prop := ∃ (c : Int) (ss : List Int), as = [.da (.int c), .da (.list (ss.map .int))] ∧ (∀ t ∈ ss, 0 < t ∧ t.natAbs < 2 ^ 200) ∧ ss.length ≤ 1000 ∧ x = .lst ((digits c ss).map .int)
end Bg

namespace Bg
open PySem L2
/-! ### contracts of the fractions' defs -/
def fFraction (as : List Rs) (x : Rs) : Prop := ∃ a b : Int, as = [.da (.int a), .da (.int b)] ∧ b ≠ 0 ∧ b.natAbs < 2 ^ 8000 ∧ x = .da (qD ((a : Rat) / (b : Rat)))
def fPlus (as : List Rs) (x : Rs) : Prop := ∃ p q : Rat, as = [.da (qD p), .da (qD q)] ∧ Sz 3000 p ∧ Sz 3000 q ∧ x = .da (qD (p + q))
def fMinus (as : List Rs) (x : Rs) : Prop := ∃ p q : Rat, as = [.da (qD p), .da (qD q)] ∧ Sz 3000 p ∧ Sz 3000 q ∧ x = .da (qD (p - q))
def fTimes (as : List Rs) (x : Rs) : Prop := ∃ (p : Rat) (k : Int), as = [.da (qD p), .da (.int k)] ∧ Sz 3000 p ∧ k.natAbs < 2 ^ 3000 ∧ x = .da (qD (p * k))
def fHalf (as : List Rs) (x : Rs) : Prop := ∃ p q : Rat, as = [.da (qD p), .da (qD q)] ∧ Sz 3000 p ∧ Sz 3000 q ∧ x = .da (qD ((p + q) / 2))
def fLess (as : List Rs) (x : Rs) : Prop := ∃ p q : Rat, as = [.da (qD p), .da (qD q)] ∧ Sz 3000 p ∧ Sz 3000 q ∧ x = .da (.bool (decide (p < q)))
def fFloor (as : List Rs) (x : Rs) : Prop := ∃ p : Rat, as = [.da (qD p)] ∧ Sz 3000 p ∧ x = .da (.int p.floor)
def fLow (as : List Rs) (x : Rs) : Prop := ∃ a b : Int, as = [.da (.int a), .da (.int b)] ∧ 0 < b ∧ b.natAbs < 2 ^ 8000 ∧ x = .da (qD ((a : Rat) / (b : Rat)))
def fPart (as : List Rs) (x : Rs) : Prop := ∃ p : Rat, as = [.da (qD p), .da (qD p)] ∧ x = .da (.bool true)
def pacedI (n m : Int) : Int := if m < 2 then n % 7 - 3 else if m = 2 then n % 25 - 12 else n % 2001 - 1000
def fPaced (as : List Rs) (x : Rs) : Prop := ∃ n m : Int, as = [.da (.int n), .da (.int m)] ∧ x = .da (.int (pacedI n m))
theorem paced_le (n m : Int) : -1000 ≤ pacedI n m ∧ pacedI n m ≤ 1000 := by
  unfold pacedI; split <;> (try split) <;> omega
def drawnR (a b d : Int) : Rat := if a = 0 then ((b % 19 - 9 : Int) : Rat) / ((1 + d % 12 : Int) : Rat) else if a = 1 then ((b % 2000001 - 1000000 : Int) : Rat) / ((1 + d % 60 : Int) : Rat)
  else if a = 2 then ((b % 7 - 3 : Int) : Rat) / ((1 : Int) : Rat) else ((b - 5 * 10000000 : Int) : Rat) / ((1 + d : Int) : Rat)
def drawn (c : Int) : Rat := match digits c [4, 1000000000000000000000000000000, 1000000000000000000000000000000] with
  | [a, b, d] => drawnR a b d
  | _ => 0
def fDrawn (as : List Rs) (x : Rs) : Prop := ∃ c : Int, as = [.da (.int c)] ∧ x = .da (qD (drawn c))
theorem drawnR_sz {a b d : Int} (hb : 0 ≤ b) (hb' : b < 1000000000000000000000000000000) (hd : 0 ≤ d) (hd' : d < 1000000000000000000000000000000) : Sz 101 (drawnR a b d) := by
  unfold drawnR
  split
  · exact Sz.div (by omega) (by omega) (by omega)
  split
  · exact Sz.div (by omega) (by omega) (by omega)
  split
  · exact Sz.div (by omega) (by omega) (by omega)
  · exact Sz.div (by omega) (by omega) (by omega)
theorem drawn_sz (c : Int) : Sz 101 (drawn c) := by
  have hb := digits_below c [4, 1000000000000000000000000000000, 1000000000000000000000000000000] (by decide)
  unfold drawn
  generalize digits c [4, 1000000000000000000000000000000, 1000000000000000000000000000000] = row at hb ⊢
  obtain ⟨r0, _, rfl, h00, h01, hb⟩ := below_cons hb
  obtain ⟨r1, _, rfl, h10, h11, hb⟩ := below_cons hb
  obtain ⟨r2, _, rfl, h20, h21, hb⟩ := below_cons hb
  cases below_nil hb
  exact drawnR_sz h10 h11 h20 h21
theorem nlt_addm {a b : Int} {n m : Nat} (ha : a.natAbs < 2 ^ n) (hb : b.natAbs < 2 ^ m) : (a + b).natAbs < 2 ^ (max n m + 1) := nlt_add (nlt_mono ha (by omega)) (nlt_mono hb (by omega))
theorem nlt_subm {a b : Int} {n m : Nat} (ha : a.natAbs < 2 ^ n) (hb : b.natAbs < 2 ^ m) : (a - b).natAbs < 2 ^ (max n m + 1) := nlt_sub (nlt_mono ha (by omega)) (nlt_mono hb (by omega))
theorem nlt_neg {a : Int} {n : Nat} (ha : a.natAbs < 2 ^ n) : (-a).natAbs < 2 ^ n := by rw [Int.natAbs_neg]; exact ha
theorem nlt_abs {a : Int} {n : Nat} (ha : a.natAbs < 2 ^ n) : ((a.natAbs : Nat) : Int).natAbs < 2 ^ n := ha
theorem sz_int {n : Nat} {k : Int} (h : k.natAbs < 2 ^ n) (hn : 1 ≤ n := by decide) : Sz n (k : Rat) := by
  refine ⟨by rw [Rat.num_intCast]; exact h, ?_⟩
  rw [Rat.den_intCast]
  exact Nat.lt_of_lt_of_le (by decide) (Nat.pow_le_pow_right (by decide) hn)
theorem qD_frac_neg {a b : Int} (hb : b < 0) : PyData.tuple [.int (-a / (Int.gcd (-a) (-b) : Int)), .int (-b / (Int.gcd (-a) (-b) : Int))] = qD ((a : Rat) / (b : Rat)) := by
  rw [qD_low (by omega : 0 < -b)]
  congr 1
  rw [Rat.intCast_neg, Rat.intCast_neg]
  have : (b : Rat) ≠ 0 := by
    intro h
    have : b = 0 := by exact_mod_cast h
    omega
  grind
theorem gcd_lt {a b : Int} {n : Nat} (h : b ≠ 0) (hb : b.natAbs < 2 ^ n) : ((Int.gcd a b : Nat) : Int).natAbs < 2 ^ n :=
  Nat.lt_of_le_of_lt (Nat.le_of_dvd (by omega) (by have := Int.gcd_dvd_natAbs_right a b; simpa using this)) hb
theorem gcd_pos {a b : Int} (h : b ≠ 0) : (0 : Int) < (Int.gcd a b : Nat) := by
  have := Int.gcd_pos_of_ne_zero_right a h
  omega
theorem eqv_qD (p : Rat) : PyData.eqv (qD p) (qD p) = true := by
  simp [qD, PyData.eqv, PyData.eqvAll]
theorem shaped_qD (p : Rat) : SeqAt.shaped (qD p) = true := rfl
theorem eqv_qD' (p q : Rat) : PyData.eqv (qD p) (qD q) = decide (p = q) := by
  have e : PyData.eqv (qD p) (qD q) = (decide (p.num = q.num) && decide ((p.den : Int) = (q.den : Int))) := by
    simp only [qD, PyData.eqv, PyData.eqvAll, Bool.and_true, Bool.beq_eq_decide_eq]
  rw [e]
  by_cases h : p = q
  · subst h; simp
  · rw [decide_eq_false h]
    have : ¬ (p.num = q.num ∧ (p.den : Int) = (q.den : Int)) := fun ⟨h1, h2⟩ => h (Rat.ext h1 (by omega))
    simpa using this
end Bg

namespace Bg
open PySem L2
/-! ### legs -/
def legD (m p : Rat) (v : Int) : PyData := .tuple [qD m, qD p, .int v]
/-- the place on a leg -/
def onLeg (m0 p0 : Rat) (v : Int) (m : Rat) : Rat := p0 + (m - m0) * v
def fPlaceOn (as : List Rs) (x : Rs) : Prop := ∃ (m0 p0 : Rat) (v : Int) (m : Rat), as = [.da (legD m0 p0 v), .da (qD m)] ∧ Sz 700 m0 ∧ Sz 1400 p0 ∧ v.natAbs < 2 ^ 100 ∧ Sz 700 m ∧ x = .da (qD (onLeg m0 p0 v m))
def absR (q : Rat) : Rat := ((q.num.natAbs : Int) : Rat) / ((q.den : Int) : Rat)
theorem absR_num (q : Rat) : (absR q).num = (q.num.natAbs : Int) ∧ (absR q).den = q.den := by
  unfold absR
  have hc : Int.gcd ((q.den : Nat) : Int) ((q.num.natAbs : Nat) : Int) = 1 := by
    have := q.reduced
    unfold Nat.Coprime at this
    rw [Nat.gcd_comm] at this
    exact this
  rw [← Rat.divInt_eq_div, Rat.num_divInt, Rat.den_divInt, hc, Int.sign_eq_one_of_pos (den_pos q), if_neg (by have := den_pos q; omega)]
  simp
theorem qD_abs (q : Rat) : PyData.tuple [.int (q.num.natAbs : Int), .int (q.den : Int)] = qD (absR q) := by
  unfold qD
  rw [(absR_num q).1, (absR_num q).2]
theorem sz_abs {n : Nat} {q : Rat} (h : Sz n q) : Sz n (absR q) := by
  unfold Sz
  rw [(absR_num q).1, (absR_num q).2]
  exact h
def drawnPace (c : Int) : Int := match digits c [4, 2001] with
  | [a, b] => pacedI b a
  | _ => 0
theorem pace_le (c : Int) : -1000 ≤ drawnPace c ∧ drawnPace c ≤ 1000 := by
  unfold drawnPace
  split
  · exact paced_le _ _
  · decide
theorem pace_lt (c : Int) : (drawnPace c).natAbs < 2 ^ 10 := by
  have := pace_le c
  omega
def fLeg (as : List Rs) (x : Rs) : Prop := ∃ a b c : Int, as = [.da (.int a), .da (.int b), .da (.int c)] ∧ x = .da (legD (absR (drawn a)) (drawn b) (drawnPace c))
theorem f_place {a b c d e f v : Rat} (hb : b ≠ 0) (hd : d ≠ 0) (hf : f ≠ 0) : a / b + (c / d - e / f) * v = (a * (d * f) + v * (c * f - e * d) * b) / (b * (d * f)) := by grind
theorem rat_place (m0 p0 : Rat) (v : Int) (m : Rat) : onLeg m0 p0 v m = ((p0.num * (m.den * m0.den) + v * (m.num * m0.den - m0.num * m.den) * p0.den : Int) : Rat) / ((p0.den * (m.den * m0.den) : Int) : Rat) := by
  unfold onLeg
  conv => lhs; rw [rat_eq p0, rat_eq m, rat_eq m0]
  simp only [Rat.intCast_add, Rat.intCast_mul, Rat.intCast_sub]
  exact f_place (den_ne p0) (den_ne m) (den_ne m0)
theorem sz_onLeg {n k l j : Nat} {m0 p0 m : Rat} {v : Int} (h1 : Sz n m0) (h2 : Sz k p0) (h3 : v.natAbs < 2 ^ l) (h4 : Sz j m) : Sz (k + (j + n + 1 + l) + 1) (onLeg m0 p0 v m) :=
  h2.add ((h4.sub h1).muli h3)
end Bg

namespace Bg
open PySem L2
/-! ### where legs meet -/
theorem int_ne {k : Int} (h : k ≠ 0) : (k : Rat) ≠ 0 := fun z => h (by exact_mod_cast z)
theorem f_negneg {a b : Rat} (h : b ≠ 0) : -a / -b = a / b := by grind
def meetR (m0 p0 : Rat) (v : Int) (m1 p1 : Rat) (u : Int) : Rat := ((p1 - m1 * u) - (p0 - m0 * v)) / ((v - u : Int) : Rat)
def meetD (m0 p0 : Rat) (v : Int) (m1 p1 : Rat) (u : Int) : PyData := if v = u then .none else qD (meetR m0 p0 v m1 p1 u)
def fOutset (as : List Rs) (x : Rs) : Prop := ∃ (m0 p0 : Rat) (v : Int), as = [.da (legD m0 p0 v)] ∧ Sz 700 m0 ∧ Sz 1400 p0 ∧ v.natAbs < 2 ^ 100 ∧ x = .da (qD (p0 - m0 * v))
def fMeeting (as : List Rs) (x : Rs) : Prop := ∃ (m0 p0 : Rat) (v : Int) (m1 p1 : Rat) (u : Int), as = [.da (legD m0 p0 v), .da (legD m1 p1 u)] ∧ Sz 700 m0 ∧ Sz 1400 p0 ∧ v.natAbs < 2 ^ 100 ∧ Sz 700 m1 ∧ Sz 1400 p1 ∧ u.natAbs < 2 ^ 100 ∧ x = .da (meetD m0 p0 v m1 p1 u)
def fMaybe (as : List Rs) (x : Rs) : Prop := ∃ d : PyData, as = [.da d, .da d] ∧ (d = .none ∨ ∃ p, d = qD p) ∧ x = .da (.bool true)
theorem f_divi {a b k : Rat} (hb : b ≠ 0) (hk : k ≠ 0) : a / (b * k) = a / b / k := by grind
theorem rat_divi {g : Rat} {k : Int} (hk : k ≠ 0) : ((g.num : Int) : Rat) / ((g.den * k : Int) : Rat) = g / (k : Rat) := by
  rw [Rat.intCast_mul, f_divi (den_ne g) (int_ne hk), ← rat_eq g]
theorem f_law {a b c d k : Rat} (hb : b ≠ 0) (hd : d ≠ 0) (hk : k ≠ 0) : (c / d - a / b) / k = (c * b - a * d) / (b * d * k) := by grind
theorem meetR_law {m0 p0 m1 p1 : Rat} {v u : Int} (h : ¬ v = u) : meetR m0 p0 v m1 p1 u = (((onLeg m1 p1 u 0).num * (onLeg m0 p0 v 0).den - (onLeg m0 p0 v 0).num * (onLeg m1 p1 u 0).den : Int) : Rat) / (((onLeg m0 p0 v 0).den * (onLeg m1 p1 u 0).den * (v - u) : Int) : Rat) := by
  have hk : ((v - u : Int) : Rat) ≠ 0 := int_ne (by omega)
  have e : meetR m0 p0 v m1 p1 u = (onLeg m1 p1 u 0 - onLeg m0 p0 v 0) / ((v - u : Int) : Rat) := by
    unfold meetR onLeg
    congr 1
    grind
  rw [e]
  conv => lhs; rw [rat_eq (onLeg m1 p1 u 0), rat_eq (onLeg m0 p0 v 0)]
  rw [f_law (den_ne _) (den_ne _) hk]
  simp only [Rat.intCast_sub, Rat.intCast_mul]
theorem meetR_same {m0 p0 m1 p1 : Rat} {v u : Int} (h : ¬ v = u) : onLeg m0 p0 v (meetR m0 p0 v m1 p1 u) = onLeg m1 p1 u (meetR m0 p0 v m1 p1 u) := by
  have hk : ((v - u : Int) : Rat) ≠ 0 := int_ne (by omega)
  unfold meetR onLeg
  rw [Rat.intCast_sub] at hk ⊢
  generalize (v : Rat) = a at *
  generalize (u : Rat) = b at *
  have : (p1 - m1 * b - (p0 - m0 * a)) / (a - b) * (a - b) = p1 - m1 * b - (p0 - m0 * a) := by grind
  grind
theorem meetR_comm {m0 p0 m1 p1 : Rat} {v u : Int} (h : ¬ v = u) : meetR m1 p1 u m0 p0 v = meetR m0 p0 v m1 p1 u := by
  have hk : ((v - u : Int) : Rat) ≠ 0 := int_ne (by omega)
  unfold meetR
  rw [Rat.intCast_sub] at hk ⊢
  rw [Rat.intCast_sub]
  generalize (v : Rat) = a at *
  generalize (u : Rat) = b at *
  grind
end Bg

namespace Bg
open PySem L2
theorem rat_tri (p q : Rat) : (p < q ∧ ¬ q < p ∧ ¬ p = q) ∨ (¬ p < q ∧ q < p ∧ ¬ p = q) ∨ (¬ p < q ∧ ¬ q < p ∧ p = q) := by
  by_cases h1 : p < q
  · exact .inl ⟨h1, by grind, by grind⟩
  · by_cases h2 : q < p
    · exact .inr (.inl ⟨h1, h2, by grind⟩)
    · exact .inr (.inr ⟨h1, h2, by grind⟩)
/-- int(b) of a bool -/
theorem q_intB {X : Cx} {ρ : En} {e : Expr} {b : Bool} {pos p : Pos} (hm : X.mg "int" = none) (ha : QD X e ρ (.bool b)) (hg : Gl X "int" := by rfl) (he : starEach (e :: []) X.env = (false, eval e X.env) :: starEach [] X.env := by rfl) (hpl : (backTo pos (starEach [] X.env)).any (·.1) = false := by rfl) :
    QD X (.Call (.Name "int" p) [e] [] pos) ρ (.int (if b then 1 else 0)) :=
  pe_imp (pe_callTy call_int1 hg hm (by decide +kernel) (qs_cons ha qs_nil he) (by decide) (by decide) he hpl) fun σ H Q ⟨Hs, env, k⟩ => by
    refine ⟨Hs, env, fun vs Hs1 H1 e1 dvs => ?_⟩
    obtain ⟨v, rfl, q⟩ := dpAll_1 dvs
    rw [dp_bool q]
    exact .inr ⟨b, rfl, kdata k e1 (.int _)⟩
end Bg

namespace Bg
open PySem L2
/-! ### the laws' names -/
def sgS : Str := "abcdefghijklmnopqrstuvwxyz0123456789"
def sgs : List Nat := sgS.cps.toList
theorem sgs_len : sgs.length = 36 := by decide +kernel
def sgn (k : Int) : Nat := sgs.getD k.toNat 0
def ch (c : Nat) : Str := ⟨#[c]⟩
def mkS (cs : List Nat) : Str := ⟨cs.toArray⟩
theorem mkS_inj {a b : List Nat} (h : mkS a = mkS b) : a = b := by
  have := congrArg (fun z : Str => z.cps.toList) h
  simpa [mkS] using this
theorem atI_sgn {k : Int} (h0 : 0 ≤ k) (h1 : k < 36) : atI sgS.cps.toList k = some (sgn k) := by
  obtain ⟨n, rfl⟩ := Int.eq_ofNat_of_zero_le h0
  have hn : n < sgs.length := by rw [sgs_len]; omega
  show atI sgs ((n : Nat) : Int) = some (sgs.getD ((n : Nat) : Int).toNat 0)
  rw [atI_nat' hn, Int.toNat_natCast, List.getElem?_eq_getElem hn, List.getD_eq_getElem?_getD, List.getElem?_eq_getElem hn]
  rfl
theorem joinL_ch : ∀ cs : List Nat, TL.joinL [] ((cs.map ch).map TL.tl) = cs
  | [] => rfl
  | [_] => rfl
  | a :: b :: r => by
    show [a] ++ ([] ++ TL.joinL [] (((b :: r).map ch).map TL.tl)) = a :: b :: r
    rw [joinL_ch (b :: r)]
    rfl
theorem join_ch (cs : List Nat) : Txt.join (Str.ofString "") (cs.map ch) = mkS cs := by
  rw [TL.join_eq]
  refine TL.ext_tl ?_
  rw [TL.tl_join]
  have e : TL.tl (Str.ofString "") = [] := by decide +kernel
  rw [e, joinL_ch]
  simp [mkS, TL.tl]
theorem sum_ch : ∀ cs : List Nat, ((cs.map ch).map (·.length)).sum = cs.length
  | [] => rfl
  | c :: cs => by
    rw [List.map_cons, List.map_cons, List.sum_cons, sum_ch cs, List.length_cons]
    show 1 + cs.length = _
    omega
def nm12 : List Str := ["m", "ab", "a", "zebra9", "b0", "0", "abc", "9zz", "q7q7q7q7", "aa", "z", "a1b2c3d4"]
def nbody (r0 r2 : Int) (bs : List Int) : List Nat := if r0 = 1 then (bs.map sgn).take (r2.toNat + 1) else bs.map sgn
def namesR (r0 r1 r2 : Int) (bs : List Int) (r11 : Int) (many : Nat) : List Str :=
  if r0 = 0 ∧ many ≤ 12 then (List.range many).map fun k => nm12.getD ((r1 + 5 * (k : Nat)) % 12).toNat ⟨#[]⟩
  else (List.range many).map fun k => mkS ((nbody r0 r2 bs).set (r11 % ((nbody r0 r2 bs).length : Nat)).toNat (sgn ((r1 + 5 * (k : Nat)) % 36)))
def namesL (c : Int) (many : Nat) : List Str := match digits c [3, 36, 8, 36, 36, 36, 36, 36, 36, 36, 36, 840] with
  | [r0, r1, r2, b0, b1, b2, b3, b4, b5, b6, b7, r11] => namesR r0 r1 r2 [b0, b1, b2, b3, b4, b5, b6, b7] r11 many
  | _ => []
theorem at_nm12 {k : Int} (h0 : 0 ≤ k) (h1 : k < 12) : itemOf (.list (nm12.map .str)) k = some (.str (nm12.getD k.toNat ⟨#[]⟩)) := by
  obtain ⟨n, rfl⟩ := Int.eq_ofNat_of_zero_le h0
  have hn : n < nm12.length := by show n < 12; omega
  show atI (nm12.map PyData.str) ((n : Nat) : Int) = _
  rw [atI_nat' (by rw [List.length_map]; exact hn), Int.toNat_natCast, List.getElem?_map, List.getElem?_eq_getElem hn, List.getD_eq_getElem?_getD, List.getElem?_eq_getElem hn]
  rfl
def fNames (as : List Rs) (x : Rs) : Prop := ∃ (c : Int) (many : Nat), as = [.da (.int c), .da (.int (many : Nat))] ∧ many ≤ 36 ∧ x = .lst ((namesL c many).map .str)
end Bg

namespace Bg
open PySem L2
section
variable {X : Cx} {ρ : En} {a b : Expr} {pos : Pos} {s t : Str}
theorem qt_eqS (ha : QD X a ρ (.str s)) (hb : QD X b ρ (.str t)) : QT X (.Compare a [.Eq] [b] pos) ρ (decide (s = t)) :=
  qt_cmp op_eq ha hb (nomark _) fun v w Hs H Q h1 h2 _ k => by
    rw [dp_str h1, dp_str h2]; refine ⟨rfl, ?_⟩
    have : decide (V.str s = V.str t) = decide (s = t) := by simp
    rw [this]; exact k
theorem qt_neS (ha : QD X a ρ (.str s)) (hb : QD X b ρ (.str t)) : QT X (.Compare a [.NotEq] [b] pos) ρ (!decide (s = t)) :=
  qt_cmp op_ne ha hb (nomark _) fun v w Hs H Q h1 h2 _ k => by
    rw [dp_str h1, dp_str h2]; refine ⟨rfl, ?_⟩
    have : decide (V.str s = V.str t) = decide (s = t) := by simp
    rw [this]; exact k
end
/-! ### who lies behind whom -/
def ltS (s t : Str) : Bool := decide (s.cps.toList < t.cps.toList)
theorem ltS_anti {s t : Str} (h : s ≠ t) : ltS t s = !ltS s t := by
  have hne : s.cps.toList ≠ t.cps.toList := fun e => h (TL.ext_tl e)
  unfold ltS
  by_cases h1 : s.cps.toList < t.cps.toList
  · rw [decide_eq_true h1, decide_eq_false (List.lt_asymm h1)]; rfl
  · have h2 : t.cps.toList ≤ s.cps.toList := List.not_lt.mp h1
    have h3 : t.cps.toList < s.cps.toList := by
      by_cases h4 : t.cps.toList < s.cps.toList
      · exact h4
      · exact absurd (List.le_antisymm (List.not_lt.mp h4) h2) hne
    rw [decide_eq_false h1, decide_eq_true h3]; rfl
def lbR (p : Rat) (v : Int) (n : Str) (q : Rat) (u : Int) (m : Str) : Bool := if p < q then true else if q < p then false else if v ≠ u then decide (v < u) else ltS n m
theorem lbR_anti {p q : Rat} {v u : Int} {n m : Str} (h : n ≠ m) : lbR q u m p v n = !lbR p v n q u m := by
  unfold lbR
  by_cases h1 : p < q
  · have h2 : ¬ q < p := by grind
    simp [h1, h2]
  · by_cases h2 : q < p
    · simp [h1, h2]
    · rw [if_neg h1, if_neg h2, if_neg h2, if_neg h1]
      by_cases h3 : v = u
      · subst h3
        simp [ltS_anti h]
      · have h4 : ¬ u = v := fun e => h3 e.symm
        rw [if_pos h3, if_pos h4]
        by_cases h5 : v < u
        · rw [decide_eq_true h5, decide_eq_false (by omega)]; rfl
        · rw [decide_eq_false h5, decide_eq_true (by omega)]; rfl
def fLiesBehind (as : List Rs) (x : Rs) : Prop := ∃ (n : Str) (m0 p0 : Rat) (v : Int) (n2 : Str) (m1 p1 : Rat) (u : Int) (m : Rat), as = [.da (.str n), .da (legD m0 p0 v), .da (.str n2), .da (legD m1 p1 u), .da (qD m)] ∧ (Sz 700 m0 ∧ Sz 1400 p0 ∧ v.natAbs < 2 ^ 100) ∧ (Sz 700 m1 ∧ Sz 1400 p1 ∧ u.natAbs < 2 ^ 100) ∧ Sz 700 m ∧
  x = .da (.bool (lbR (onLeg m0 p0 v m) v n (onLeg m1 p1 u m) u n2))
def befB (p : Rat) (h f : Str) (q : Rat) (h2 f2 : Str) : Bool := if p < q then true else if q < p then false else if h ≠ h2 then ltS h h2 else ltS f f2
def fBeforeA (as : List Rs) (x : Rs) : Prop := ∃ (p : Rat) (v : Int) (n : Str) (q : Rat) (u : Int) (m : Str), as = [.da (.tuple [qD p, .int v, .str n]), .da (.tuple [qD q, .int u, .str m])] ∧ Sz 3000 p ∧ Sz 3000 q ∧ x = .da (.bool (lbR p v n q u m))
def fBeforeB (as : List Rs) (x : Rs) : Prop := ∃ (p : Rat) (v : Str) (n : Str) (q : Rat) (u : Str) (m : Str), as = [.da (.tuple [qD p, .str v, .str n]), .da (.tuple [qD q, .str u, .str m])] ∧ Sz 3000 p ∧ Sz 3000 q ∧ x = .da (.bool (befB p v n q u m))
def fBefore (as : List Rs) (x : Rs) : Prop := fBeforeA as x ∨ fBeforeB as x
theorem rat_ne_iff (p q : Rat) : (p.num * q.den = q.num * p.den) ↔ p = q := by
  constructor
  · intro h
    have h1 : ¬ p < q := fun z => by rw [Rat.lt_iff] at z; omega
    have h2 : ¬ q < p := fun z => by rw [Rat.lt_iff] at z; omega
    grind
  · intro h; rw [h]
/-! ### the names are unlike -/
theorem sgs_nodup : sgs.Nodup := by decide +kernel
theorem sgn_inj {a b : Int} (ha : 0 ≤ a) (ha' : a < 36) (hb : 0 ≤ b) (hb' : b < 36) (h : sgn a = sgn b) : a = b := by
  have la : a.toNat < sgs.length := by rw [sgs_len]; omega
  have lb : b.toNat < sgs.length := by rw [sgs_len]; omega
  unfold sgn at h
  rw [List.getD_eq_getElem?_getD, List.getElem?_eq_getElem la, List.getD_eq_getElem?_getD, List.getElem?_eq_getElem lb] at h
  have := (List.getElem_inj sgs_nodup).mp (by simpa using h)
  omega
theorem nm12_nodup : nm12.Nodup := by decide +kernel
theorem namesR_len (r0 r1 r2 : Int) (bs : List Int) (r11 : Int) (many : Nat) : (namesR r0 r1 r2 bs r11 many).length = many := by
  unfold namesR; split <;> simp
theorem namesR_nodup {r0 r1 r2 r11 : Int} {bs : List Int} {many : Nat} (hm : many ≤ 36) (hr1 : 0 ≤ r1) (hr2 : 0 ≤ r2) (hb : bs.length = 8) : (namesR r0 r1 r2 bs r11 many).Nodup := by
  unfold namesR
  split
  · rename_i h
    refine List.pairwise_map.mpr (List.Pairwise.imp_of_mem ?_ List.nodup_range)
    intro a b ha hb' hab e
    have ha : a < many := by simpa using ha
    have hb' : b < many := by simpa using hb'
    have m0 := Int.emod_nonneg (r1 + 5 * (a : Nat)) (show (12 : Int) ≠ 0 by decide)
    have m1 := Int.emod_lt_of_pos (r1 + 5 * (a : Nat)) (show (0 : Int) < 12 by decide)
    have k0 := Int.emod_nonneg (r1 + 5 * (b : Nat)) (show (12 : Int) ≠ 0 by decide)
    have k1 := Int.emod_lt_of_pos (r1 + 5 * (b : Nat)) (show (0 : Int) < 12 by decide)
    have la : ((r1 + 5 * (a : Nat)) % 12).toNat < nm12.length := by show _ < 12; omega
    have lb : ((r1 + 5 * (b : Nat)) % 12).toNat < nm12.length := by show _ < 12; omega
    rw [List.getD_eq_getElem?_getD, List.getElem?_eq_getElem la, List.getD_eq_getElem?_getD, List.getElem?_eq_getElem lb] at e
    have := (List.getElem_inj nm12_nodup).mp (by simpa using e)
    omega
  · refine List.pairwise_map.mpr (List.Pairwise.imp_of_mem ?_ List.nodup_range)
    intro a b ha hb' hab e
    have ha : a < many := by simpa using ha
    have hb' : b < many := by simpa using hb'
    have hl : 0 < (nbody r0 r2 bs).length := by
      unfold nbody
      split
      · rw [List.length_take, List.length_map, hb]; omega
      · rw [List.length_map, hb]; decide
    have e1 := mkS_inj e
    have hat1 := Int.emod_lt_of_pos r11 (show (0 : Int) < ((nbody r0 r2 bs).length : Nat) by omega)
    have hat0 := Int.emod_nonneg r11 (show (((nbody r0 r2 bs).length : Nat) : Int) ≠ 0 by omega)
    have e2 := congrArg (fun l => l[(r11 % ((nbody r0 r2 bs).length : Nat)).toNat]?) e1
    rw [List.getElem?_set_self (by omega), List.getElem?_set_self (by omega)] at e2
    have e3 : sgn ((r1 + 5 * (a : Nat)) % 36) = sgn ((r1 + 5 * (b : Nat)) % 36) := by simpa using e2
    have := sgn_inj (Int.emod_nonneg _ (by decide)) (Int.emod_lt_of_pos _ (by decide)) (Int.emod_nonneg _ (by decide)) (Int.emod_lt_of_pos _ (by decide)) e3
    omega
theorem namesL_props (c : Int) (many : Nat) (hm : many ≤ 36) : (namesL c many).length = many ∧ (namesL c many).Nodup := by
  unfold namesL
  have hb := digits_below c [3, 36, 8, 36, 36, 36, 36, 36, 36, 36, 36, 840] (by decide)
  generalize digits c [3, 36, 8, 36, 36, 36, 36, 36, 36, 36, 36, 840] = row at hb ⊢
  obtain ⟨r0, _, rfl, h00, h01, hb⟩ := below_cons hb
  obtain ⟨r1, _, rfl, h10, h11, hb⟩ := below_cons hb
  obtain ⟨r2, _, rfl, h20, h21, hb⟩ := below_cons hb
  obtain ⟨b0, _, rfl, _, _, hb⟩ := below_cons hb
  obtain ⟨b1, _, rfl, _, _, hb⟩ := below_cons hb
  obtain ⟨b2, _, rfl, _, _, hb⟩ := below_cons hb
  obtain ⟨b3, _, rfl, _, _, hb⟩ := below_cons hb
  obtain ⟨b4, _, rfl, _, _, hb⟩ := below_cons hb
  obtain ⟨b5, _, rfl, _, _, hb⟩ := below_cons hb
  obtain ⟨b6, _, rfl, _, _, hb⟩ := below_cons hb
  obtain ⟨b7, _, rfl, _, _, hb⟩ := below_cons hb
  obtain ⟨r11, _, rfl, _, _, hb⟩ := below_cons hb
  cases below_nil hb
  exact ⟨namesR_len .., namesR_nodup hm h10 h20 rfl⟩
end Bg

namespace Bg
open PySem L2
section
variable {X : Cx} {ρ : En} {e : Expr} {pos : Pos} {mk : List Bool} {E : XK} {body : List Stmt}
/-- a loop by what stays so -/
theorem fo_inv {i : Nat} {I : Nat → En → Prop} {n : Nat} (step : ∀ j ρ, j < n → I j ρ → Nat.ble (i + 1) ρ.length = true ∧ ∃ ρ', (EXs X mk E body (ρ.set i (.ow (.da (.int (j : Nat))))) (.nx ρ') ∨ EXs X mk E body (ρ.set i (.ow (.da (.int (j : Nat))))) (.ct ρ')) ∧ I (j + 1) ρ') :
    ∀ m j ρ, j + m = n → I j ρ → ∃ ρ', FoP X mk E i body (rngA j m) ρ (.nx ρ') ∧ I n ρ'
  | 0, j, ρ, h, hI => ⟨ρ, .nil, by rw [← h]; exact hI⟩
  | m + 1, j, ρ, h, hI => by
    obtain ⟨hb, ρ1, h1, h2⟩ := step j ρ (by omega) hI
    obtain ⟨ρ2, h3, h4⟩ := fo_inv step m (j + 1) ρ1 (by omega) h2
    rcases h1 with h1 | h1
    · exact ⟨ρ2, .next h1 h3 hb, h4⟩
    · exact ⟨ρ2, .cont h1 h3 hb, h4⟩
theorem dpAll_ints {K : PySem.W.Frag} {Hs : Hp} : ∀ {ns : List Int} {vs : List V}, DpAll K Hs vs (ns.map .int) → vs = ns.map V.int
  | [], _, h => by cases h; rfl
  | n :: ns, _, h => by
    cases h with
    | cons a b => rw [dp_int a, dpAll_ints b]; rfl
theorem ints_dpAll {K : PySem.W.Frag} {Hs : Hp} : ∀ (ns : List Int), DpAll K Hs (ns.map V.int) (ns.map .int)
  | [] => .nil
  | n :: ns => .cons (.int n) (ints_dpAll ns)
/-- sorted(xs) of a readable list of ints -/
theorem q_sortedI {ns out : List Int} {p : Pos} (hm : X.mg "sorted" = none) (ha : QA X e ρ (.lst (ns.map .int))) (hs : ∀ l : List Int, l.Perm ns → l.Pairwise (· ≤ ·) → l = out) (hg : Gl X "sorted" := by rfl) (he : starEach (e :: []) X.env = (false, eval e X.env) :: starEach [] X.env := by rfl) (hpl : (backTo pos (starEach [] X.env)).any (·.1) = false := by rfl) :
    QV X (.Call (.Name "sorted" p) [e] [] pos) ρ (.lst (out.map .int)) :=
  pe_imp (pe_callB cr_sortedI hg hm (by decide +kernel) (qas_cons ha qas_nil he) (by decide) (by decide) he hpl) fun σ H Q ⟨Hs, env, k⟩ => by
    refine ⟨Hs, env, fun vs Hs1 H1 e1 os => ?_⟩
    cases os with
    | cons o t =>
      cases t
      cases o with
      | lst ha r =>
        rw [dpAll_ints r] at ha
        refine ⟨_, ns, rfl, SqL.of ha, fun ns' a pm srt fr => ?_⟩
        rw [hs ns' pm srt]
        have e2 : Ext Hs1 H1 Hs1 (upd H1 a (.lst (out.map V.int))) := Ext.more e1.sub fr
        exact k _ _ _ [a] (e1.trans e2) (.lst upd_same (ints_dpAll out)) (by simp) fun b m => by
          have z : b = a := by simpa using m
          subst z
          exact ⟨e1.all.free fr, e1.sub.free fr⟩
theorem rgV_ints (n : Nat) : rgV 0 (n : Nat) = ((List.range n).map fun i : Nat => (i : Int)).map V.int := by
  unfold rgV
  rw [List.map_map]
  have : ((n : Nat) - 0 : Int).toNat = n := by omega
  rw [this]
  refine List.map_congr_left fun i _ => ?_
  show V.int (0 + (i : Nat)) = V.int (i : Nat)
  rw [Int.zero_add]
/-- list(range(n)) -/
theorem q_listRg {n : Nat} {p p2 pos2 : Pos} (hc : X.calm = true) (hm : X.mg "list" = none) (hm2 : X.mg "range" = none) (ha : QD X e ρ (.int (n : Nat))) (hn : n ≤ 16777216) (hg : Gl X "list" := by rfl) (hg2 : Gl X "range" := by rfl)
    (he : starEach (e :: []) X.env = (false, eval e X.env) :: starEach [] X.env := by rfl) (he2 : starEach [(.Call (.Name "range" p2) [e] [] pos2)] X.env = (false, eval (.Call (.Name "range" p2) [e] [] pos2) X.env) :: starEach [] X.env := by rfl) :
    QV X (.Call (.Name "list" p) [.Call (.Name "range" p2) [e] [] pos2] [] pos) ρ (.lst (((List.range n).map fun i : Nat => (i : Int)).map .int)) :=
  pe_imp (pe_listRg hc hg hm (prg_1 hg2 hm2 ha he) he2) fun σ H Q ⟨Hs, env, k⟩ => tq_data env fun v Hs1 H1 e1 dv => by
    refine ⟨n, dp_int dv, RgOk.of_le (by omega) (by omega) (by omega) (by omega), fun a fr => ?_⟩
    rw [rgV_ints]
    have e2 : Ext Hs1 H1 Hs1 (upd H1 a (.lst (((List.range n).map fun i : Nat => (i : Int)).map V.int))) := Ext.more e1.sub fr
    exact k _ _ _ [a] (e1.trans e2) (.lst upd_same (ints_dpAll _)) (by simp) fun b m => by
      have z : b = a := by simpa using m
      subst z
      exact ⟨e1.all.free fr, e1.sub.free fr⟩
end
/-! ### ranks -/
theorem ltS_trans {a b c : Str} (h1 : ltS a b = true) (h2 : ltS b c = true) : ltS a c = true := by
  unfold ltS at *
  simp only [decide_eq_true_eq] at *
  exact List.lt_trans h1 h2
theorem lbR_trans {p q r : Rat} {v u w : Int} {n m l : Str} (h1 : lbR p v n q u m = true) (h2 : lbR q u m r w l = true) : lbR p v n r w l = true := by
  unfold lbR at *
  by_cases a1 : p < q
  · by_cases a2 : q < r
    · have : p < r := by grind
      simp [this]
    · by_cases a3 : r < q
      · simp [a2, a3] at h2
      · have : p < r := by grind
        simp [this]
  · by_cases a2 : q < p
    · simp [a1, a2] at h1
    · have e : p = q := by grind
      subst e
      by_cases a3 : p < r
      · simp [a3]
      · by_cases a4 : r < p
        · simp [a3, a4] at h2
        · rw [if_neg a1, if_neg a1] at h1
          rw [if_neg a3, if_neg a4] at h2 ⊢
          by_cases b1 : v = u
          · subst b1
            rw [if_neg (by simp)] at h1
            by_cases b2 : v = w
            · subst b2
              rw [if_neg (by simp)] at h2 ⊢
              exact ltS_trans h1 h2
            · rw [if_pos b2] at h2 ⊢
              exact h2
          · rw [if_pos b1] at h1
            have c1 : v < u := by simpa using h1
            by_cases b2 : u = w
            · subst b2
              rw [if_pos b1]
              exact h1
            · rw [if_pos b2] at h2
              have c2 : u < w := by simpa using h2
              rw [if_pos (by omega)]
              simp; omega
def rk (B : Nat → Nat → Bool) (n k : Nat) : Nat := (List.range n).countP fun j => decide (j ≠ k) && B j k
theorem countP_lt {α : Type} {p q : α → Bool} : ∀ {l : List α} {x : α}, (∀ y ∈ l, p y = true → q y = true) → x ∈ l → p x = false → q x = true → l.countP p < l.countP q
  | y :: l, x, h, hx, h1, h2 => by
    have hle : l.countP p ≤ l.countP q := List.countP_mono_left fun z m => h z (List.mem_cons_of_mem _ m)
    rcases List.mem_cons.mp hx with rfl | hx
    · rw [List.countP_cons, List.countP_cons, h1, h2]; simp; omega
    · have := countP_lt (fun z m => h z (List.mem_cons_of_mem _ m)) hx h1 h2
      have := h y (by simp)
      rw [List.countP_cons, List.countP_cons]
      by_cases a : p y = true
      · rw [a, this a]; simp; omega
      · rw [if_neg a]; split <;> omega
theorem ranks_sorted {B : Nat → Nat → Bool} {n : Nat} (anti : ∀ i j, i < n → j < n → i ≠ j → B j i = !B i j) (tr : ∀ i j k, i < n → j < n → k < n → B i j = true → B j k = true → B i k = true) (l : List Int) (hp : l.Perm ((List.range n).map fun k => (rk B n k : Int))) (hs : l.Pairwise (· ≤ ·)) :
    l = (List.range n).map fun i : Nat => (i : Int) := by
  have lt : ∀ k, k < n → rk B n k < n := fun k hk => by
    have : rk B n k < (List.range n).countP fun _ => true := countP_lt (x := k) (fun _ _ _ => rfl) (by simpa using hk) (by simp) rfl
    simpa using this
  have mono : ∀ i k, i < n → k < n → i ≠ k → B i k = true → rk B n i < rk B n k := fun i k hi hk hne hb => by
    refine countP_lt (x := i) (fun j hj h => ?_) (by simpa using hi) (by simp) (by simp [hne, hb])
    have hj' : j < n := by simpa using hj
    simp only [Bool.and_eq_true, decide_eq_true_eq] at h ⊢
    have hjk : j ≠ k := fun e => by
      subst e
      rw [anti i j hi hj' hne, hb] at h
      exact absurd h.2 (by simp)
    exact ⟨hjk, tr j i k hj' hi hk h.2 hb⟩
  have nd : ((List.range n).map fun k => (rk B n k : Int)).Nodup := by
    refine List.pairwise_map.mpr (List.Pairwise.imp_of_mem ?_ List.nodup_range)
    intro a b ha hb hab e
    have ha : a < n := by simpa using ha
    have hb : b < n := by simpa using hb
    cases q : B a b with
    | true => have := mono a b ha hb hab q; omega
    | false => have := mono b a hb ha (Ne.symm hab) (by rw [anti a b ha hb hab, q]; rfl); omega
  have nr : ((List.range n).map fun i : Nat => (i : Int)).Nodup := List.pairwise_map.mpr (List.Pairwise.imp (fun h e => h (by omega)) List.nodup_range)
  have sub : ((List.range n).map fun k => (rk B n k : Int)) ⊆ (List.range n).map fun i : Nat => (i : Int) := fun x hx => by
    obtain ⟨k, hk, rfl⟩ := List.mem_map.mp hx
    exact List.mem_map.mpr ⟨rk B n k, by simpa using lt k (by simpa using hk), rfl⟩
  have pm : ((List.range n).map fun k => (rk B n k : Int)).Perm ((List.range n).map fun i : Nat => (i : Int)) := by
    refine (List.perm_ext_iff_of_nodup nd nr).mpr fun a => ⟨fun h => sub h, fun h => ?_⟩
    apply Classical.byContradiction
    intro hn
    have : (a :: (List.range n).map fun k => (rk B n k : Int)).length ≤ ((List.range n).map fun i : Nat => (i : Int)).length := by
      refine List.Nodup.length_le_of_subset (List.nodup_cons.mpr ⟨hn, nd⟩) fun x hx => ?_
      rcases List.mem_cons.mp hx with rfl | hx
      · exact h
      · exact sub hx
    simp at this
    omega
  refine List.Perm.eq_of_pairwise (le := (· ≤ ·)) (fun a b _ _ h1 h2 => Int.le_antisymm h1 h2) hs ?_ (hp.trans pm)
  refine List.pairwise_map.mpr (List.Pairwise.imp (fun h => ?_) List.pairwise_lt_range)
  omega
theorem eqvAll_ints : ∀ ns : List Int, PyData.eqv (.list (ns.map .int)) (.list (ns.map .int)) = true
  | [] => rfl
  | n :: ns => by
    have := eqvAll_ints ns
    simp [PyData.eqv, PyData.eqvAll] at this ⊢
    exact this
def placedI (n m : Int) : Int := if m < 2 then n % 19 - 9 else if m = 2 then n % 121 - 60 else n % 2000001 - 1000000
def fPlaced (as : List Rs) (x : Rs) : Prop := ∃ n m : Int, as = [.da (.int n), .da (.int m)] ∧ x = .da (.int (placedI n m))
theorem placed_le (n m : Int) : -1000000 ≤ placedI n m ∧ placedI n m ≤ 1000000 := by
  unfold placedI; split <;> (try split) <;> omega
def row10 (ns : List Int) (k : Nat) : List Int := digits (cell ns (3 + k)) [4, 2000001, 2001]
def m10 (ns : List Int) (k : Nat) : Int := (row10 ns k).getD 0 0
def p10 (ns : List Int) (md : Int) (k : Nat) : Int := placedI ((row10 ns k).getD 1 0) md
def v10 (ns : List Int) (md : Int) (k : Nat) : Int := pacedI ((row10 ns k).getD 2 0) md
def leg10 (ns : List Int) (md : Int) (k : Nat) : PyData := legD (m10 ns k : Int) (p10 ns md k : Int) (v10 ns md k)
def nmAt (nl : List Str) (k : Nat) : Str := nl.getD k ""
theorem nmAt_inj {nl : List Str} (h : nl.Nodup) {i j : Nat} (hi : i < nl.length) (hj : j < nl.length) (hne : i ≠ j) : nmAt nl i ≠ nmAt nl j := by
  unfold nmAt
  rw [List.getD_eq_getElem?_getD, List.getElem?_eq_getElem hi, List.getD_eq_getElem?_getD, List.getElem?_eq_getElem hj]
  exact fun e => hne ((List.getElem_inj h).mp (by simpa using e))
theorem nmAt_item {nl : List Str} {i : Nat} (hi : i < nl.length) : atI (nl.map PyData.str) ((i : Nat) : Int) = some (.str (nmAt nl i)) := by
  rw [atI_nat' (by simpa using hi), List.getElem?_map, List.getElem?_eq_getElem hi]
  unfold nmAt
  rw [List.getD_eq_getElem?_getD, List.getElem?_eq_getElem hi]
  rfl
theorem nmAt_itemL {nl : List Str} {i : Nat} (hi : i < nl.length) : itemOf (.list (nl.map PyData.str)) ((i : Nat) : Int) = some (.str (nmAt nl i)) := nmAt_item hi
theorem map_item {n i : Nat} {F : Nat → PyData} (hi : i < n) : atI ((List.range n).map F) ((i : Nat) : Int) = some (F i) := by
  rw [atI_nat' (by simpa using hi), List.getElem?_map, List.getElem?_eq_getElem (by simpa using hi)]
  simp
def B10 (ns : List Int) (md : Int) (nl : List Str) (m : Rat) (j k : Nat) : Bool := lbR (onLeg (m10 ns j : Int) (p10 ns md j : Int) (v10 ns md j) m) (v10 ns md j) (nmAt nl j) (onLeg (m10 ns k : Int) (p10 ns md k : Int) (v10 ns md k) m) (v10 ns md k) (nmAt nl k)
theorem m10_sz (ns : List Int) (k : Nat) : Sz 700 ((m10 ns k : Int) : Rat) := by
  have hb := digits_below (cell ns (3 + k)) [4, 2000001, 2001] (by decide)
  unfold m10 row10
  generalize digits (cell ns (3 + k)) [4, 2000001, 2001] = row at hb ⊢
  obtain ⟨r0, _, rfl, h00, h01, hb⟩ := below_cons hb
  refine (sz_int (n := 3) ?_ ).mono (by decide)
  show r0.natAbs < 2 ^ 3
  omega
theorem p10_sz (ns : List Int) (md : Int) (k : Nat) : Sz 1400 ((p10 ns md k : Int) : Rat) := by
  refine (sz_int (n := 21) ?_ ).mono (by decide)
  have := placed_le ((row10 ns k).getD 1 0) md
  show (placedI _ _).natAbs < _
  omega
theorem v10_lt (ns : List Int) (md : Int) (k : Nat) : (v10 ns md k).natAbs < 2 ^ 100 := by
  have := paced_le ((row10 ns k).getD 2 0) md
  show (pacedI _ _).natAbs < _
  omega
theorem range_snoc {α : Type} (F : Nat → α) (j : Nat) : (List.range (j + 1)).map F = (List.range j).map F ++ [F j] := by
  rw [List.range_succ, List.map_append]; rfl
theorem qD_int (i : Int) : qD (i : Rat) = .tuple [.int i, .int 1] := rfl
end Bg

namespace Bg
open PySem L2
section
variable {X : Cx} {ρ : En} {a b : Expr} {pos : Pos}
theorem inV_ints (i : Int) : ∀ ns : List Int, inV (.int i) (ns.map V.int) = decide (i ∈ ns)
  | [] => by simp [inV]
  | n :: ns => by
    have := inV_ints i ns
    unfold inV at this ⊢
    rw [List.map_cons, List.any_cons, this]
    show ((n == i) || _) = _
    by_cases h : n = i
    · subst h; simp
    · have h2 : ¬ i = n := fun e => h e.symm
      simp [h, h2]
theorem flat_ints : ∀ ns : List Int, (ns.map V.int).all flatV = true
  | [] => rfl
  | n :: ns => flat_ints ns
theorem qt_inT {i : Int} {ns : List Int} (ha : QD X a ρ (.int i)) (hb : QD X b ρ (.tuple (ns.map .int))) (hm : behindInMarks .In b = false := by rfl) : QT X (.Compare a [.In] [b] pos) ρ (decide (i ∈ ns)) :=
  qt_cmp op_in_seq ha hb hm fun v w Hs H Q h1 h2 s k => by
    obtain ⟨p, xs, rfl, q, r⟩ := dp_tup h2
    rw [dp_int h1]
    have e := dpAll_ints r
    subst e
    refine ⟨p, _, rfl, .inr (sqT_mono s q), rfl, flat_ints ns, ?_⟩
    rw [if_neg (by decide), inV_ints]
    exact k
end
/-! ### above a post -/
def abv (p : Rat) (v post : Int) (ah : Bool) : Bool := if p = (post : Rat) then (if ah then decide (v ≤ 0) else decide (0 ≤ v)) else decide ((post : Rat) < p)
def fAbv (ah : Bool) (as : List Rs) (x : Rs) : Prop := ∃ (m0 p0 : Rat) (v : Int) (m : Rat) (post : Int), as = [.da (legD m0 p0 v), .da (qD m), .da (.int post)] ∧ (Sz 700 m0 ∧ Sz 1400 p0 ∧ v.natAbs < 2 ^ 100) ∧ Sz 700 m ∧ post.natAbs < 2 ^ 100 ∧ x = .da (.bool (abv (onLeg m0 p0 v m) v post ah))
def fSide (as : List Rs) (x : Rs) : Prop := ∃ (m0 p0 : Rat) (v : Int) (m : Rat) (post : Int) (ah : Bool), as = [.da (legD m0 p0 v), .da (qD m), .da (.int post), .da (.bool ah)] ∧ (Sz 700 m0 ∧ Sz 1400 p0 ∧ v.natAbs < 2 ^ 100) ∧ Sz 700 m ∧ post.natAbs < 2 ^ 100 ∧ x = .da (.bool (abv (onLeg m0 p0 v m) v post ah))
theorem post_eq (p : Rat) (post : Int) : p.num = post * (p.den : Int) ↔ p = (post : Rat) := by
  have := rat_ne_iff p (post : Rat)
  have e1 : ((post : Rat)).num = post := rfl
  have e2 : ((post : Rat)).den = 1 := rfl
  rw [e1, e2] at this
  simpa using this
theorem post_lt (p : Rat) (post : Int) : post * (p.den : Int) < p.num ↔ (post : Rat) < p := by
  rw [Rat.lt_iff]
  have e1 : ((post : Rat)).num = post := rfl
  have e2 : ((post : Rat)).den = 1 := rfl
  rw [e1, e2]
  simp
end Bg

namespace Bg
open PySem L2
/-! ### goings by a post -/
abbrev Lg := Rat × Rat × Int
def lD (L : Lg) : PyData := legD L.1 L.2.1 L.2.2
def LgOk (L : Lg) : Prop := Sz 700 L.1 ∧ Sz 1400 L.2.1 ∧ L.2.2.natAbs < 2 ^ 100
def atL (L : Lg) (m : Rat) : Rat := onLeg L.1 L.2.1 L.2.2 m
def hitR (L : Lg) (post : Int) : Rat := L.1 + ((post : Rat) - L.2.1) / (L.2.2 : Rat)
def wd (b : Bool) : Str := if b then "up" else "down"
def gD (g : Rat × Bool) : PyData := .tuple [qD g.1, .str (wd g.2)]
def gMid (L : Lg) (e : Rat) (post : Int) : List (Rat × Bool) := if L.2.2 ≠ 0 ∧ L.1 < hitR L post ∧ hitR L post < e then [(hitR L post, decide (0 < L.2.2))] else []
def gEnd (L B : Lg) (e : Rat) (post : Int) : List (Rat × Bool) := if abv (atL L e) L.2.2 post true ≠ abv (atL B e) B.2.2 post false then [(e, abv (atL B e) B.2.2 post false)] else []
def gStep (L B : Lg) (e : Rat) (post : Int) : List (Rat × Bool) := if L.1 < e then gMid L e post ++ gEnd L B e post else []
def lgAt (Ls : List Lg) (k : Nat) : Lg := Ls.getD k (0, 0, 0)
def gAt (Ls : List Lg) (u : Rat) (post : Int) (k : Nat) : List (Rat × Bool) := if k + 1 < Ls.length then gStep (lgAt Ls k) (lgAt Ls (k + 1)) (lgAt Ls (k + 1)).1 post else gStep (lgAt Ls k) (lgAt Ls k) u post
def goings (Ls : List Lg) (u : Rat) (post : Int) : List (Rat × Bool) := (List.range Ls.length).flatMap (gAt Ls u post)
theorem gStep_len (L B : Lg) (e : Rat) (post : Int) : (gStep L B e post).length ≤ 2 := by
  unfold gStep gMid gEnd; split <;> (try split) <;> (try split) <;> simp
theorem gAt_len (Ls : List Lg) (u : Rat) (post : Int) (k : Nat) : (gAt Ls u post k).length ≤ 2 := by
  unfold gAt; split <;> exact gStep_len ..
theorem goings_len (Ls : List Lg) (u : Rat) (post : Int) : ∀ k, ((List.range k).flatMap (gAt Ls u post)).length ≤ 2 * k
  | 0 => by simp
  | k + 1 => by
    rw [List.range_succ, List.flatMap_append, List.length_append]
    have := goings_len Ls u post k
    have := gAt_len Ls u post k
    have e : ([k].flatMap (gAt Ls u post)) = gAt Ls u post k := by simp
    rw [e]; omega
theorem flat_snoc (Ls : List Lg) (u : Rat) (post : Int) (k : Nat) : (List.range (k + 1)).flatMap (gAt Ls u post) = (List.range k).flatMap (gAt Ls u post) ++ gAt Ls u post k := by
  rw [List.range_succ, List.flatMap_append]; simp
theorem lgAt_item {Ls : List Lg} {k : Nat} (h : k < Ls.length) : itemOf (.list (Ls.map lD)) ((k : Nat) : Int) = some (lD (lgAt Ls k)) := by
  show atI _ _ = _
  rw [atI_nat' (by simpa using h), List.getElem?_map, List.getElem?_eq_getElem h]
  unfold lgAt
  rw [List.getD_eq_getElem?_getD, List.getElem?_eq_getElem h]
  rfl
theorem lgAt_ok {Ls : List Lg} {k : Nat} (h : k < Ls.length) (hok : ∀ L ∈ Ls, LgOk L) : LgOk (lgAt Ls k) := by
  unfold lgAt
  rw [List.getD_eq_getElem?_getD, List.getElem?_eq_getElem h]
  exact hok _ (List.getElem_mem h)
def fComesAt (as : List Rs) (x : Rs) : Prop := ∃ (L : Lg) (post : Int), as = [.da (lD L), .da (.int post)] ∧ LgOk L ∧ post.natAbs < 2 ^ 100 ∧ x = .da (if L.2.2 = 0 then .none else qD (hitR L post))
def fSideWord (as : List Rs) (x : Rs) : Prop := ∃ b : Bool, as = [.da (.bool b)] ∧ x = .da (.str (wd b))
def fGoings (as : List Rs) (x : Rs) : Prop := ∃ (Ls : List Lg) (u : Rat) (post : Int), as = [.da (.list (Ls.map lD)), .da (qD u), .da (.int post)] ∧ (∀ L ∈ Ls, LgOk L) ∧ Sz 700 u ∧ post.natAbs < 2 ^ 100 ∧ Ls.length ≤ 1000 ∧ x = .lst ((goings Ls u post).map gD)
def fGoingrows (as : List Rs) (x : Rs) : Prop := ∃ gs : List (Rat × Bool), as = [.da (.list (gs.map gD)), .da (.list (gs.map gD))] ∧ gs.length ≤ 5000 ∧ x = .da (.bool true)
theorem eqv_gD (g : Rat × Bool) : PyData.eqv (gD g) (gD g) = true := by
  have := eqv_qD g.1
  simp [gD, PyData.eqv, PyData.eqvAll, this]
theorem shaped_gD (g : Rat × Bool) : SeqAt.shaped (gD g) = true := by
  rcases g with ⟨p, b⟩
  have h : PyData.canLay0 (.str (wd b)) = true := by cases b <;> decide +kernel
  simp [SeqAt.shaped, gD, qD, PyData.canLay0, PyData.canLayAll0, PyData.depth, PyData.depthAll] at h ⊢
  exact h
theorem sz_hit {L : Lg} {post : Int} (h : LgOk L) (hp : post.natAbs < 2 ^ 100) (hv : L.2.2 ≠ 0) : Sz 3000 (((post : Rat) - L.2.1) / (L.2.2 : Rat)) ∧ Sz 3000 (hitR L post) := by
  have z1 := (sz_int hp).sub h.2.1
  have z2 : Sz 1800 (((post : Rat) - L.2.1) / (L.2.2 : Rat)) := by
    rw [← rat_divi hv]
    by_cases h0 : 0 < L.2.2
    · exact Sz.div (Int.mul_pos (den_pos _) h0) (nlt_mono z1.num (by decide)) (nlt_mono (nlt_mul z1.den h.2.2) (by decide))
    · have hn : ∀ a b : Rat, a / b = (-a) / (-b) := fun a b => by grind
      rw [hn, ← Rat.intCast_neg, ← Rat.intCast_neg]
      refine Sz.div ?_ (nlt_mono (nlt_neg z1.num) (by decide)) (nlt_mono (nlt_neg (nlt_mul z1.den h.2.2)) (by decide))
      have := Int.mul_pos (den_pos ((post : Rat) - L.2.1)) (show 0 < -L.2.2 by omega)
      rw [Int.mul_neg] at this
      exact this
  exact ⟨z2.mono (by decide), (h.1.add z2).mono (by decide)⟩
end Bg

namespace Bg
open PySem L2
/-! ### a later moment, and the moment of being at a post -/
def laterM (md : Int) : Int := if md = 0 then 4 else if md = 1 then 6 else 60
def laterU (b md : Int) : Int := 1 + b % laterM md
def laterS (n U md : Int) : Int := if md = 3 then 1 + n / 8 % (500 * U) else 1 + n / 8 % (2 * U)
def laterR (c : Rat) (n b md : Int) : Rat := if n % 8 = 0 then c else ((c.num * laterU b md / c.den + laterS n (laterU b md) md : Int) : Rat) / ((laterU b md : Int) : Rat)
def fLater (as : List Rs) (x : Rs) : Prop := ∃ (c : Rat) (n b md : Int), as = [.da (qD c), .da (.int n), .da (.int b), .da (.int md)] ∧ 0 ≤ md ∧ md < 4 ∧ Sz 700 c ∧ x = .da (qD (laterR c n b md))
theorem laterM_le (md : Int) : 4 ≤ laterM md ∧ laterM md ≤ 60 := by unfold laterM; split <;> (try split) <;> omega
theorem laterU_le (b md : Int) : 1 ≤ laterU b md ∧ laterU b md ≤ 60 := by
  have h := laterM_le md
  have h1 := Int.emod_nonneg b (show laterM md ≠ 0 by omega)
  have h2 := Int.emod_lt_of_pos b (show 0 < laterM md by omega)
  unfold laterU; omega
theorem laterS_le (n U md : Int) (hU : 1 ≤ U) : 1 ≤ laterS n U md ∧ laterS n U md ≤ 500 * U := by
  unfold laterS
  have a1 := Int.emod_nonneg (n / 8) (show 500 * U ≠ 0 by omega)
  have a2 := Int.emod_lt_of_pos (n / 8) (show 0 < 500 * U by omega)
  have a3 := Int.emod_nonneg (n / 8) (show 2 * U ≠ 0 by omega)
  have a4 := Int.emod_lt_of_pos (n / 8) (show 0 < 2 * U by omega)
  split <;> omega
theorem later_item {md : Int} (h0 : 0 ≤ md) (h1 : md < 4) : itemOf (.list [.int 4, .int 6, .int 60, .int 60]) md = some (.int (laterM md)) := by
  have : md = 0 ∨ md = 1 ∨ md = 2 ∨ md = 3 := by omega
  rcases this with rfl | rfl | rfl | rfl <;> rfl
/-- a moment of the laws -/
structure Mo (B : Int) (c : Rat) : Prop where
  nn : 0 ≤ c
  le : c ≤ (B : Rat)
  den : c.den ≤ 60
theorem den_div_le {a b : Int} (hb : 0 < b) : (((a : Rat) / (b : Rat)).den : Int) ≤ b := by
  rw [← Rat.divInt_eq_div, Rat.den_divInt, if_neg (by omega)]
  have := Nat.div_le_self b.natAbs (b.gcd a)
  omega
theorem int_pos {b : Int} (h : 0 < b) : (0 : Rat) < (b : Rat) := by exact_mod_cast h
theorem later_gt {c : Rat} {n b md : Int} (h : ¬ n % 8 = 0) : c < laterR c n b md := by
  unfold laterR
  rw [if_neg h]
  obtain ⟨u1, u2⟩ := laterU_le b md
  obtain ⟨s1, s2⟩ := laterS_le n _ md u1
  generalize laterU b md = U at *
  generalize laterS n U md = S at *
  have hd := den_pos c
  rw [Rat.lt_div_iff (int_pos (by omega))]
  have h1 : c.num * U < (c.num * U / (c.den : Int) + S) * c.den := by
    have := Int.lt_ediv_add_one_mul_self (c.num * U) hd
    refine Int.lt_of_lt_of_le this (Int.mul_le_mul_of_nonneg_right (by omega) (by omega))
  have h2 : c * (U : Rat) = ((c.num * U : Int) : Rat) / ((c.den : Int) : Rat) := by
    conv => lhs; rw [rat_eq c]
    have := den_ne c
    rw [Rat.intCast_mul]
    grind
  rw [h2, Rat.div_lt_iff (int_pos hd)]
  exact_mod_cast h1
theorem later_ge (c : Rat) (n b md : Int) : c ≤ laterR c n b md := by
  by_cases h : n % 8 = 0
  · rw [laterR, if_pos h]; exact Rat.le_refl
  · exact Rat.le_of_lt (later_gt h)
theorem later_le (c : Rat) (n b md : Int) : laterR c n b md ≤ c + 500 := by
  by_cases h : n % 8 = 0
  · rw [laterR, if_pos h]; grind
  unfold laterR
  rw [if_neg h]
  obtain ⟨u1, u2⟩ := laterU_le b md
  obtain ⟨s1, s2⟩ := laterS_le n _ md u1
  generalize laterU b md = U at *
  generalize laterS n U md = S at *
  have hd := den_pos c
  have hU := int_pos (show 0 < U by omega)
  have h0 : ((c.num * U / (c.den : Int) : Int) : Rat) ≤ c * (U : Rat) := by
    have h2 : c * (U : Rat) = ((c.num * U : Int) : Rat) / ((c.den : Int) : Rat) := by
      conv => lhs; rw [rat_eq c]
      have := den_ne c
      rw [Rat.intCast_mul]
      grind
    rw [h2]
    have h3 : c.num * U / (c.den : Int) * c.den ≤ c.num * U := Int.ediv_mul_le _ (by omega)
    have h4 : ¬ ((c.num * U : Int) : Rat) / ((c.den : Int) : Rat) < ((c.num * U / (c.den : Int) : Int) : Rat) := by
      rw [Rat.div_lt_iff (int_pos hd)]
      intro z
      have : c.num * U < c.num * U / (c.den : Int) * c.den := by exact_mod_cast z
      omega
    exact Rat.not_lt.mp h4
  have h5 : ((S : Int) : Rat) ≤ 500 * (U : Rat) := by exact_mod_cast s2
  refine Rat.not_lt.mp fun z => ?_
  rw [Rat.lt_div_iff hU, Rat.intCast_add] at z
  grind
theorem mo_later {B : Int} {c : Rat} (h : Mo B c) (n b md : Int) : Mo (B + 500) (laterR c n b md) := by
  have h1 := later_ge c n b md
  have h2 := later_le c n b md
  have h3 := h.nn
  have h4 := h.le
  refine ⟨by grind, ?_, ?_⟩
  · rw [Rat.intCast_add]
    have : ((500 : Int) : Rat) = 500 := rfl
    rw [this]
    grind
  · unfold laterR
    split
    · exact h.den
    · obtain ⟨u1, u2⟩ := laterU_le b md
      have := den_div_le (a := c.num * laterU b md / c.den + laterS n (laterU b md) md) (b := laterU b md) (by omega)
      omega
theorem mo_zero : Mo 0 0 := ⟨by decide, by decide, by decide⟩
theorem Mo.sz {B : Int} {c : Rat} (h : Mo B c) (hB : B ≤ 1000000000) : Sz 40 c := by
  have h1 := (Rat.le_iff _ _).mp h.nn
  have h2 := (Rat.le_iff _ _).mp h.le
  have e1 : ((B : Rat)).num = B := rfl
  have e2 : ((B : Rat)).den = 1 := rfl
  have e3 : ((0 : Rat)).num = 0 := rfl
  have e4 : ((0 : Rat)).den = 1 := rfl
  rw [e1, e2] at h2
  rw [e3, e4] at h1
  have h3 := h.den
  have hd := den_pos c
  have hB0 : 0 ≤ B := by
    have : (0 : Int) ≤ B * c.den := by omega
    by_cases z : 0 ≤ B
    · exact z
    · have := Int.mul_neg_of_neg_of_pos (show B < 0 by omega) hd
      omega
  have h4 : B * (c.den : Int) ≤ 1000000000 * 60 := Int.mul_le_mul hB (by omega) (by omega) (by decide)
  exact ⟨by omega, by omega⟩
/-! ### the moment of being at a post -/
def fHit (as : List Rs) (x : Rs) : Prop := ∃ (L : Lg) (post : Int), as = [.da (lD L), .da (.int post)] ∧ LgOk L ∧ post.natAbs < 2 ^ 100 ∧ x = .da (qD (if L.2.2 = 0 then L.1 else hitR L post))
theorem f_hit {a b c d k t : Rat} (hb : b ≠ 0) (hd : d ≠ 0) (hk : k ≠ 0) : (a * d * k + (t * d - c) * b) / (d * b * k) = a / b + (t - c / d) / k := by grind
theorem f_hit' {a b c d k t : Rat} (hb : b ≠ 0) (hd : d ≠ 0) (hk : k ≠ 0) : (a * d * (-k) + -((t * d - c) * b)) / (d * b * (-k)) = a / b + (t - c / d) / k := by grind
theorem hit_pos {m0 p0 : Rat} {v post : Int} (h : v ≠ 0) : (((m0.num * p0.den * v + (post * p0.den - p0.num) * m0.den : Int) : Rat)) / ((p0.den * m0.den * v : Int) : Rat) = hitR (m0, p0, v) post := by
  unfold hitR
  show _ = m0 + ((post : Rat) - p0) / (v : Rat)
  conv => rhs; rw [rat_eq m0, rat_eq p0]
  rw [← f_hit (den_ne m0) (den_ne p0) (int_ne h)]
  simp only [Rat.intCast_add, Rat.intCast_mul, Rat.intCast_sub]
theorem hit_neg {m0 p0 : Rat} {v post : Int} (h : v ≠ 0) : (((m0.num * p0.den * (-v) + -((post * p0.den - p0.num) * m0.den) : Int) : Rat)) / ((p0.den * m0.den * (-v) : Int) : Rat) = hitR (m0, p0, v) post := by
  unfold hitR
  show _ = m0 + ((post : Rat) - p0) / (v : Rat)
  conv => rhs; rw [rat_eq m0, rat_eq p0]
  rw [← f_hit' (den_ne m0) (den_ne p0) (int_ne h)]
  simp only [Rat.intCast_add, Rat.intCast_mul, Rat.intCast_sub, Rat.intCast_neg]
theorem sz_hit2 {n k l j : Nat} {m0 p0 : Rat} {v post : Int} (hm : Sz n m0) (hp : Sz k p0) (hv : v.natAbs < 2 ^ l) (ht : post.natAbs < 2 ^ j) (h0 : v ≠ 0) (hj : 1 ≤ j) : Sz (n + (j + k + 1 + l) + 1) (hitR (m0, p0, v) post) := by
  have z1 := (sz_int ht hj).sub hp
  have z2 : Sz (j + k + 1 + l) (((post : Rat) - p0) / (v : Rat)) := by
    rw [← rat_divi h0]
    by_cases hpos : 0 < v
    · exact Sz.div (Int.mul_pos (den_pos _) hpos) (nlt_mono z1.num (by omega)) (nlt_mul z1.den hv)
    · have hn : ∀ a b : Rat, a / b = (-a) / (-b) := fun a b => by grind
      rw [hn, ← Rat.intCast_neg, ← Rat.intCast_neg]
      refine Sz.div ?_ (nlt_mono (nlt_neg z1.num) (by omega)) (nlt_neg (nlt_mul z1.den hv))
      have := Int.mul_pos (den_pos ((post : Rat) - p0)) (show 0 < -v by omega)
      rw [Int.mul_neg] at this
      exact this
  exact hm.add z2
/-! ### one leg -/
theorem at_hit {m0 p0 u : Rat} {v post : Int} (h : v ≠ 0) : atL (m0, p0, v) u = (post : Rat) ↔ u = hitR (m0, p0, v) post := by
  unfold atL onLeg hitR
  show p0 + (u - m0) * (v : Rat) = (post : Rat) ↔ u = m0 + ((post : Rat) - p0) / (v : Rat)
  have := int_ne h
  constructor <;> intro h <;> grind
theorem goings_one (m0 p0 : Rat) (v : Int) (u : Rat) (post : Int) : goings [(m0, p0, v)] u post = if v ≠ 0 ∧ m0 < hitR (m0, p0, v) post ∧ hitR (m0, p0, v) post ≤ u then [(hitR (m0, p0, v) post, decide (0 < v))] else [] := by
  have e : goings [(m0, p0, v)] u post = gStep (m0, p0, v) (m0, p0, v) u post := by simp [goings, gAt, lgAt]
  rw [e]
  unfold gStep gMid gEnd
  show (if m0 < u then (if v ≠ 0 ∧ m0 < hitR (m0, p0, v) post ∧ hitR (m0, p0, v) post < u then [(hitR (m0, p0, v) post, decide (0 < v))] else []) ++ (if abv (atL (m0, p0, v) u) v post true ≠ abv (atL (m0, p0, v) u) v post false then [(u, abv (atL (m0, p0, v) u) v post false)] else []) else []) = _
  by_cases hv : v = 0
  · have hab : abv (atL (m0, p0, v) u) v post true = abv (atL (m0, p0, v) u) v post false := by
      unfold abv; subst hv; split <;> simp
    rw [if_neg (show ¬ (abv (atL (m0, p0, v) u) v post true ≠ abv (atL (m0, p0, v) u) v post false) from fun h => h hab), List.append_nil]
    simp [hv]
  · have hh := at_hit (m0 := m0) (p0 := p0) (u := u) (post := post) hv
    by_cases hu : u = hitR (m0, p0, v) post
    · have hat := hh.mpr hu
      have a1 : abv (atL (m0, p0, v) u) v post true = decide (v ≤ 0) := by unfold abv; rw [if_pos hat]; rfl
      have a2 : abv (atL (m0, p0, v) u) v post false = decide (0 ≤ v) := by unfold abv; rw [if_pos hat]; rfl
      have a3 : decide (v ≤ 0) ≠ decide (0 ≤ v) := by
        by_cases z : v ≤ 0
        · rw [decide_eq_true z, decide_eq_false (by omega)]; decide
        · rw [decide_eq_false z, decide_eq_true (by omega)]; decide
      have a4 : decide (0 ≤ v) = decide (0 < v) := by congr 1; exact propext ⟨fun h => by omega, fun h => by omega⟩
      rw [a1, a2, if_pos a3, a4, ← hu]
      by_cases z : m0 < u
      · rw [if_pos z, if_neg (fun h => by have := h.2.2; grind), if_pos ⟨hv, z, Rat.le_refl⟩]; rfl
      · rw [if_neg z, if_neg (fun h => z h.2.1)]
    · have hat : ¬ atL (m0, p0, v) u = (post : Rat) := fun h => hu (hh.mp h)
      have a1 : abv (atL (m0, p0, v) u) v post true = abv (atL (m0, p0, v) u) v post false := by unfold abv; rw [if_neg hat, if_neg hat]
      rw [if_neg (show ¬ (abv (atL (m0, p0, v) u) v post true ≠ abv (atL (m0, p0, v) u) v post false) from fun h => h a1), List.append_nil]
      generalize hitR (m0, p0, v) post = h at hu ⊢
      by_cases z : m0 < u
      · rw [if_pos z]
        by_cases y : v ≠ 0 ∧ m0 < h ∧ h < u
        · rw [if_pos y, if_pos ⟨y.1, y.2.1, Rat.le_of_lt y.2.2⟩]
        · rw [if_neg y, if_neg (fun x => y ⟨x.1, x.2.1, by have := x.2.2; grind⟩)]
      · rw [if_neg z, if_neg (fun x => z (by have := x.2.1; have := x.2.2; grind))]
theorem shaped_lD (L : Lg) : SeqAt.shaped (.list [lD L]) = true := rfl
theorem eqv_lD (L : Lg) : PyData.eqv (.list [lD L]) (.list [lD L]) = true := by
  have h1 := eqv_qD L.1
  have h2 := eqv_qD L.2.1
  simp [lD, legD, PyData.eqv, PyData.eqvAll, h1, h2]
theorem rat_lt_iff' (p q : Rat) : decide (p.num * q.den < q.num * p.den) = decide (p < q) := by
  congr 1; exact propext (Rat.lt_iff p q).symm
theorem rat_le_iff' (p q : Rat) : decide (p.num * q.den ≤ q.num * p.den) = decide (p ≤ q) := by
  congr 1; exact propext (Rat.le_iff _ _).symm
end Bg

namespace Bg
open PySem L2
section
variable {X : Cx} {ρ : En} {a b e : Expr} {pos : Pos} {s t : Str}
theorem it_str {tg : Expr} (h : QD X e ρ (.str s)) : ITR X tg e ρ (s.cps.toList.map fun c => .str (ch c)) :=
  pi_imp (pi_str h) fun σ H Q ⟨Hs, env, k⟩ => tq_data env fun v Hs1 H1 e1 dv => by
    refine ⟨s, dp_str dv, k _ Hs1 H1 e1 fun Hs2 H2 s2 t2 => ⟨fun j d hj => ?_, fun j hj => ?_⟩⟩
    · rw [List.getElem?_map] at hj
      cases q : s.cps.toList[j]? with
      | none => rw [q] at hj; cases hj
      | some c =>
        rw [q] at hj
        cases hj
        have hlt : j < s.cps.size := by
          have := (List.getElem?_eq_some_iff.mp q).1
          simpa using this
        refine ⟨hlt, fun x H3 y => ⟨y.1, ?_⟩⟩
        obtain ⟨c', hc, hx⟩ := y.2
        have : s.cps.toList[j]? = some c' := by simpa using hc
        rw [q] at this
        cases this
        rw [hx]
        exact .str _
    · show s.cps.size ≤ j
      simpa using hj
theorem q_addS (ha : QD X a ρ (.str s)) (hb : QD X b ρ (.str t)) (hz : s.length + t.length ≤ sizeLine) : QD X (.BinOp a .Add b pos) ρ (.str (s ++ t)) :=
  q_bin op_add_str ha hb fun v w Hs H Q h1 h2 _ k => by
    rw [dp_str h1, dp_str h2]; exact ⟨s, t, rfl, rfl, hz, k _ (.str _)⟩
theorem op_repS : OpR X (binaryOp .Mult) (fun x y H Q => ∃ i n, x = .str i ∧ y = .int n ∧ MulOk i n ∧ Q (.str (Txt.mul i n)) H) := by
  intro pins s σ H x y v u Q I rx ry h
  obtain ⟨i, n, rfl, rfl, hok, q⟩ := h
  obtain ⟨t, rfl⟩ := rx
  obtain ⟨t', rfl⟩ := ry
  exact SB.mul hok fun t' k => ⟨.str (Txt.mul i n), H, I.tok _, ⟨_, rfl⟩, q⟩
theorem q_repS {n : Int} (ha : QD X a ρ (.str s)) (hb : QD X b ρ (.int n)) (hok : MulOk s n) : QD X (.BinOp a .Mult b pos) ρ (.str (Txt.mul s n)) :=
  q_bin op_repS ha hb fun v w Hs H Q h1 h2 _ k => by
    rw [dp_str h1, dp_int h2]; exact ⟨s, n, rfl, rfl, hok, k _ (.str _)⟩
theorem qt_notInS {c : Nat} (ha : QD X a ρ (.str (ch c))) (hb : QD X b ρ (.str t)) (hm : behindInMarks .NotIn b = false := by rfl) : QT X (.Compare a [.NotIn] [b] pos) ρ (!decide (c ∈ t.cps.toList)) :=
  qt_cmp op_notIn_sign ha hb hm fun v w Hs H Q h1 h2 _ k => by
    rw [dp_str h1, dp_str h2]; exact ⟨c, t, rfl, rfl, k⟩
theorem q_repL {n : Int} {ds : List PyData} (ha : QV X a ρ (.lst ds)) (hb : QD X b ρ (.int n)) (h0 : 0 ≤ n) (h1 : n ≤ 100000) (hz : ds.length * n.toNat ≤ 100000) : QV X (.BinOp a .Mult b pos) ρ (.lst (List.replicate n.toNat ds).flatten) :=
  pe_imp (pe_op op_rep ha hb) fun σ H Q ⟨Hs, env, k⟩ => by
    refine ⟨Hs, env, fun v Hs1 H1 fp e1 o nn f => tq_data (envQ_ext e1 env) fun w Hs2 H2 e2 dw => ?_⟩
    cases o with
    | lst hl r =>
      rename_i l xs
      refine ⟨l, n, xs, rfl, dp_int dw, e2.all _ _ hl, by omega, by omega, by rw [dpAll_length r]; exact Nat.le_trans hz (by decide), fun p fr => ?_⟩
      have e3 : Ext Hs2 H2 Hs2 (upd H2 p (.lst (List.replicate n.toNat xs).flatten)) := Ext.more e2.sub fr
      have r2 : DpAll X.K Hs2 (List.replicate n.toNat xs).flatten (List.replicate n.toNat ds).flatten := by
        generalize n.toNat = m
        induction m with
        | zero => exact .nil
        | succ m ih => rw [List.replicate_succ, List.replicate_succ, List.flatten_cons, List.flatten_cons]; exact dpAll_append (dpAll_mono e2.data r) ih
      exact k _ _ _ [p] ((e1.trans e2).trans e3) (.lst upd_same r2) (by simp) fun b m => by
        have z : b = p := by simpa using m
        subst z
        exact ⟨e1.all.free (e2.all.free fr), e2.sub.free fr⟩
end
/-! ### good names -/
def gnB (s : Str) : Bool := (decide (1 ≤ s.length) && decide (s.length ≤ 8)) && s.cps.toList.all fun c => decide (c ∈ sgs)
def fGood (as : List Rs) (x : Rs) : Prop := ∃ s : Str, as = [.da (.str s)] ∧ s.length ≤ 1000 ∧ x = .da (.bool (gnB s))
theorem below_rep : ∀ (n : Nat) (m : Int) (l : List Int), Below l (List.replicate n m) → l.length = n ∧ ∀ z ∈ l, 0 ≤ z ∧ z < m
  | 0, m, l, h => by
    have : l = [] := below_nil h
    subst this
    exact ⟨rfl, fun z hz => by cases hz⟩
  | n + 1, m, l, h => by
    rw [List.replicate_succ] at h
    obtain ⟨a, l', rfl, h0, h1, h2⟩ := below_cons h
    obtain ⟨e, f⟩ := below_rep n m l' h2
    refine ⟨by simp [e], fun z hz => ?_⟩
    rcases List.mem_cons.mp hz with rfl | hz
    · exact ⟨h0, h1⟩
    · exact f z hz
theorem rep_flat (n : Nat) (m : Int) : (List.replicate n [PyData.int m]).flatten = (List.replicate n m).map .int := by
  induction n with
  | zero => rfl
  | succ n ih => rw [List.replicate_succ, List.flatten_cons, ih]; rfl
def someS : Str := (Str.ofString " !\"#$&'()*+,-./:;<=>?@ABCDEFGHIJKLMNOPQRSTUVWXYZ[\\]^_`{|}~" ++ sgS) ++ Str.ofString "\n"
theorem some_len : someS.cps.toList.length = 95 := by decide +kernel
def smn (k : Int) : Nat := someS.cps.toList.getD k.toNat 0
theorem atI_smn {k : Int} (h0 : 0 ≤ k) (h1 : k < 95) : atI someS.cps.toList k = some (smn k) := by
  obtain ⟨n, rfl⟩ := Int.eq_ofNat_of_zero_le h0
  have hn : n < someS.cps.toList.length := by rw [some_len]; omega
  unfold smn
  rw [atI_nat' hn, Int.toNat_natCast, List.getElem?_eq_getElem hn, List.getD_eq_getElem?_getD, List.getElem?_eq_getElem hn]
  rfl
theorem mkS_len (cs : List Nat) : (mkS cs).length = cs.length := rfl
end Bg
namespace Lw
open PySem L2 Bg
def top (i : Nat) : Stmt := PySem.Challenge.pw_overhaul_k06_good_names.main.body.getD i (.Pass ⟨0, 0, 0, 0⟩)
structure Txt (K : PySem.W.Frag) (mg : Str → Option Value) : Prop where
  d__law_cell : Df K mg "_law_cell" (top 5)
  d__law_digits : Df K mg "_law_digits" (top 6)
  d_good_name : Df K mg "good_name" (top 3)
  d_law : Df K mg "law" (top 7)
  g_bool : mg "bool" = none
  g_isinstance : mg "isinstance" = none
  g_len : mg "len" = none
  g_range : mg "range" = none
  c_LONGEST : ∃ t, mg "LONGEST" = some (.int 8 t)
  c_SIGNS : ∃ t, mg "SIGNS" = some (.str "abcdefghijklmnopqrstuvwxyz0123456789" t)
section
variable {P : Program} {w : World} {K : PySem.W.Frag} {mg : Str → Option Value} {base : Heap}
/-! _law_cell -/
theorem sc__law_cell : FnScope ["_law_script", "_law_k"] ["_law_script", "_law_k"] (defScope (top 5)) := ⟨rfl, rfl, rfl, by decide +kernel, rfl, by decide +kernel, by decide +kernel⟩
theorem ok__law_cell (T : Txt K mg) : FnQ P w K mg base "_law_cell" 1 fCell := by
  refine fnQ_of (k := 0) T.d__law_cell sc__law_cell (fun _ _ _ _ _ _ us hl => match us, hl with | [_, _], _ => rfl) (fun as x ⟨_, _, h, _⟩ => by rw [h]; rfl) fun f cdv A outer s H E as r hr ⟨ns, k, h1, hk0, h2⟩ => ?_
  subst h1; subst h2
  have nd := sc__law_cell.nd
  refine .inl ?_
  show EXs _ [] E0 (defBody (top 5)) [.bo (.da (.list (ns.map .int))), .bo (.da (.int (k : Nat)))] _
  refine exs_if (qt_lt (q_var (pv 1)) (q_len T.g_len (q_var (pv 0)) rfl)) (fun h => ?_) (fun h => ?_)
  · have hk : k < ns.length := by simpa using h
    refine sq_stop (xret (q_item (q_var (pv 0)) (q_var (pv 1)) ?_))
    show atI (ns.map PyData.int) (k : Nat) = some (.int (cell ns k))
    rw [atI_nat' (by simpa using hk), List.getElem?_map, List.getElem?_eq_getElem hk]
    simp [cell, hk]
  · have hk : ¬ k < ns.length := by simpa using h
    refine sq_none (xret (q_add q_int (q_mul q_int (q_var (pv 1)) ?_)) ?_)
    · exact cmul_small (by decide) (by omega)
    · simp [cell, hk]
/-! _law_digits -/
theorem sc__law_digits : FnScope ["_law_cell_here", "_law_sizes", "_law_out", "_law_rest", "_law_size", "_law_one", "_law_k", "_law_two"] ["_law_cell_here", "_law_sizes"] (defScope (top 6)) := ⟨rfl, rfl, rfl, by decide +kernel, rfl, by decide +kernel, by decide +kernel⟩
theorem ok__law_digits (T : Txt K mg) : FnQ P w K mg base "_law_digits" 1 fDigits := by
  refine fnQ_of (k := 0) T.d__law_digits sc__law_digits (fun _ _ _ _ _ _ us hl => match us, hl with | [_, _], _ => rfl) (fun as x ⟨_, _, h, _⟩ => by rw [h]; rfl) fun f cdv A outer s H E as r hr ⟨c, ss, h1, hs, hl, h2⟩ => ?_
  subst h1; subst h2
  have nd := sc__law_digits.nd
  refine .inl ?_
  show EXs _ [] E0 (defBody (top 6)) [.bo (.da (.int c)), .bo (.da (.list (ss.map .int))), .un, .un, .un, .un, .un, .un] _
  refine exs_cons (ex_set (i := 2) nd rfl (.inl rfl) (q_listO qs_nil)) ?_
  refine exs_if (qt_ge (q_var (pv 0)) (q_pow q_int q_int (by decide))) (fun h => ?_) (fun h => ?_)
  · have hc : (1000000000000000000 : Int) ≤ c := by simpa using h
    refine sq_stop ?_
    refine exs_cons (ex_set (i := 3) nd rfl (.inl rfl) (q_sub (q_var (pv 0)) (q_pow q_int q_int (by decide)))) ?_
    have loop : ∀ (ts : List Int) (rest : Int) (out : List Int) (z : Sv), (∀ t ∈ ts, 0 < t ∧ t.natAbs < 2 ^ 200) → out.length + ts.length ≤ 100000 → ∃ z' rest', FoP (cxOf CX0 P w K mg base ["_law_cell_here", "_law_sizes", "_law_out", "_law_rest", "_law_size", "_law_one", "_law_k", "_law_two"] "_law_digits" (defScope (top 6)) f cdv A outer s H E).nox [] E0 4 (bodyOf (atS (bodyOf (atS (defBody (top 6)) 1)) 1)) (ts.map .int) [.bo (.da (.int c)), .bo (.da (.list (ss.map .int))), .ow (.lst (out.map .int)), .ow (.da (.int rest)), z, .un, .un, .un] (.nx [.bo (.da (.int c)), .bo (.da (.list (ss.map .int))), .ow (.lst ((out ++ dgA rest ts).map .int)), .ow (.da (.int rest')), z', .un, .un, .un]) := by
      intro ts
      induction ts with
      | nil => intro rest out z _ _; exact ⟨z, rest, by simp only [dgA, List.append_nil]; exact .nil⟩
      | cons t ts ih =>
        intro rest out z ht hl
        obtain ⟨h0, h1⟩ := ht t (by simp)
        obtain ⟨z', rest', q⟩ := ih (rest / t) (out ++ [rest % t]) (.ow (.da (.int t))) (fun t' m => ht t' (by simp [m])) (by simp at hl ⊢; omega)
        refine ⟨z', rest', .next (exs_cons (ex_append (i := 2) (pv 2) rfl (q_mod (q_var (pv 3)) (q_var (pv 4)) h0) ?_) (exs_one (ex_set (i := 3) nd rfl (.inl rfl) (q_div (q_var (pv 3)) (q_var (pv 4)) (cdiv_of h0 h1 (by decide)))))) ?_⟩
        · simp only [List.length_map]; exact Nat.lt_of_le_of_lt (by simp at hl; omega) (by decide : 100000 < sizeLine)
        · simp only [dgA, List.map_append, List.append_assoc, List.map_cons, List.map_nil, List.singleton_append] at q ⊢
          exact q
    obtain ⟨z', rest', q⟩ := loop ss (c - 1000000000000000000) [] .un hs (by simp; omega)
    refine exs_cons (ex_for (i := 4) PassesOwn.never rfl nd rfl (.inl rfl) (it_list (q_var (pv 1))) q) ?_
    refine xretV (pv 2) rfl ?_
    simp [digits, hc]
  · have hc : ¬ (1000000000000000000 : Int) ≤ c := by simpa using h
    refine sq_none ?_
    refine exs_cons (ex_set (i := 5) nd rfl (.inl rfl) (q_mod (q_var (pv 0)) q_int (by decide))) ?_
    have loop : ∀ (ts pre : List Int) (one : Int) (out : List Int) (z z2 : Sv), ss = pre ++ ts → (0 ≤ one ∧ one < 2147483647) → out.length = pre.length → ∃ y1 y2 y3, FoP (cxOf CX0 P w K mg base ["_law_cell_here", "_law_sizes", "_law_out", "_law_rest", "_law_size", "_law_one", "_law_k", "_law_two"] "_law_digits" (defScope (top 6)) f cdv A outer s H E).nox [] E0 6 (bodyOf (atS (defBody (top 6)) 3)) (rngA pre.length ts.length) [.bo (.da (.int c)), .bo (.da (.list (ss.map .int))), .ow (.lst (out.map .int)), .un, .un, .ow (.da (.int one)), z, z2] (.nx [.bo (.da (.int c)), .bo (.da (.list (ss.map .int))), .ow (.lst ((out ++ dgB one pre.length ts).map .int)), .un, .un, y1, y2, y3]) := by
      intro ts
      induction ts with
      | nil => intro pre one out z z2 _ _ _; exact ⟨_, _, _, by simp only [dgB, List.append_nil, rngA, List.length_nil]; exact .nil⟩
      | cons t ts ih =>
        intro pre one out z z2 he ho hl'
        have ht : t ∈ ss := by rw [he]; simp
        obtain ⟨h0, h1⟩ := hs t ht
        have hpl : pre.length < ss.length := by rw [he]; simp
        have b1 := dg_one one pre.length
        have b2 := dg_two (dgOne one pre.length) pre.length
        obtain ⟨y1, y2, y3, q⟩ := ih (pre ++ [t]) (dgOne one pre.length) (out ++ [dgTwo (dgOne one pre.length) pre.length / 11 % t]) (.ow (.da (.int (pre.length : Nat)))) (.ow (.da (.int (dgTwo (dgOne one pre.length) pre.length)))) (by rw [he]; simp) ⟨b1.1, by omega⟩ (by simp [hl'])
        refine ⟨y1, y2, y3, .next (exs_cons (ex_set (i := 5) nd rfl (.inl rfl) (q_mod (q_add (q_mul (q_var (pv 5)) q_int ?_) (q_mul q_int (q_add (q_var (pv 6)) q_int) ?_)) q_int (by decide))) (exs_cons (ex_set (i := 7) nd rfl (.inl rfl) (q_mod (q_add (q_add (q_mul (q_var (pv 5)) (q_var (pv 5)) ?_) (q_mul q_int (q_var (pv 5)) ?_)) (q_var (pv 6))) q_int (by decide))) (exs_one (ex_append (i := 2) (pv 2) rfl (q_mod (q_div (q_var (pv 7)) q_int ?_) (q_item (q_var (pv 1)) (q_var (pv 6)) (d := .int t) ?_) h0) ?_)))) ?_⟩
        · exact cmul_of (n := 32) (m := 32) (by omega) (by decide) (by decide)
        · exact cmul_small (by decide) (by omega)
        · exact cmul_of (n := 32) (m := 32) (by show (dgOne one pre.length).natAbs < _; omega) (by show (dgOne one pre.length).natAbs < _; omega) (by decide)
        · exact cmul_small (by decide) (by show (dgOne one pre.length).natAbs < _; omega)
        · exact cdiv_of (m := 4) (by decide) (by decide) (by decide)
        · show atI (ss.map PyData.int) ((pre.length : Nat) : Int) = _
          rw [atI_nat' (by simpa using hpl), List.getElem?_map, he]
          simp
        · simp only [List.length_map]; exact Nat.lt_of_le_of_lt (by omega) (by decide : 100000 < sizeLine)
        · simp only [dgB, List.map_append, List.append_assoc, List.map_cons, List.map_nil, List.singleton_append, List.length_append, List.length_cons, List.length_nil, Nat.zero_add] at q ⊢
          exact q
    obtain ⟨y1, y2, y3, q⟩ := loop ss [] (c % 2147483647) [] .un .un (by simp) ⟨Int.emod_nonneg _ (by decide), Int.emod_lt_of_pos _ (by decide)⟩ rfl
    refine exs_cons (ex_for (i := 6) PassesOwn.never rfl nd rfl (.inl rfl) (it_rangeN T.g_range (q_len T.g_len (q_var (pv 1)) rfl) (by rw [List.length_map]; omega)) (by rw [List.length_map]; exact q)) ?_
    refine xretV (pv 2) rfl ?_
    simp [digits, hc]
/-! good_name -/
theorem sc_good_name : FnScope ["text", "sign"] ["text"] (defScope (top 3)) := ⟨rfl, rfl, rfl, by decide +kernel, rfl, by decide +kernel, by decide +kernel⟩
theorem ok_good_name (T : Txt K mg) : FnQ P w K mg base "good_name" 1 fGood := by
  refine fnQ_of (k := 0) T.d_good_name sc_good_name (fun _ _ _ _ _ _ us hl => match us, hl with | [_], _ => rfl) (fun as x ⟨_, h, _⟩ => by rw [h]; rfl) fun f cdv A outer s H E as r hr ⟨z, e1, hz, e2⟩ => ?_
  subst e1; subst e2
  have nd := sc_good_name.nd
  refine .inl ?_
  obtain ⟨tS, hS⟩ := T.c_SIGNS
  obtain ⟨tL, hL⟩ := T.c_LONGEST
  have lim : z.length ≤ sizeLine := Nat.le_trans hz (by decide)
  show EXs _ [] E0 (defBody (top 3)) [.bo (.da (.str z)), .un] _
  by_cases hl : 1 ≤ z.length ∧ z.length ≤ 8
  · have loop : ∀ (cs : List Nat) (y : Sv), (cs.all (fun c => decide (c ∈ sgs)) = true ∧ ∃ y', FoP (cxOf CX0 P w K mg base ["text", "sign"] "good_name" (defScope (top 3)) f cdv A outer s H E).nox [] E0 1 (bodyOf (atS (defBody (top 3)) 1)) (cs.map fun c => .str (ch c)) [.bo (.da (.str z)), y] (.nx [.bo (.da (.str z)), y'])) ∨ (cs.all (fun c => decide (c ∈ sgs)) = false ∧ FoP (cxOf CX0 P w K mg base ["text", "sign"] "good_name" (defScope (top 3)) f cdv A outer s H E).nox [] E0 1 (bodyOf (atS (defBody (top 3)) 1)) (cs.map fun c => .str (ch c)) [.bo (.da (.str z)), y] (.rt (.da (.bool false)) [])) := by
      intro cs
      induction cs with
      | nil => intro y; exact .inl ⟨rfl, y, .nil⟩
      | cons c cs ih =>
        intro y
        by_cases hc : c ∈ sgs
        · rcases ih (.ow (.da (.str (ch c)))) with ⟨h1, y', q⟩ | ⟨h1, q⟩
          · refine .inl ⟨by simp [List.all_cons, hc] at h1 ⊢; exact h1, y', .next (exs_if (p := false) (qt_to (qt_notInS (c := c) (q_var (pv 1)) (q_gstr hS)) (by show (!decide (c ∈ sgs)) = false; simp [hc])) (fun h => nomatch h) (fun _ => sq_none exs_nil)) q⟩
          · refine .inr ⟨by rw [List.all_cons, h1, Bool.and_false], .next (exs_if (p := false) (qt_to (qt_notInS (c := c) (q_var (pv 1)) (q_gstr hS)) (by show (!decide (c ∈ sgs)) = false; simp [hc])) (fun h => nomatch h) (fun _ => sq_none exs_nil)) q⟩
        · refine .inr ⟨by simp [List.all_cons, hc], .ret (exs_if (p := true) (qt_to (qt_notInS (c := c) (q_var (pv 1)) (q_gstr hS)) (by show (!decide (c ∈ sgs)) = true; simp [hc])) (fun _ => sq_stop (xret q_bool)) (fun h => nomatch h))⟩
    refine exs_if (p := false) (qt_to (qt_w (qw_or (qt_lt (q_lenS T.g_len (q_var (pv 0)) lim) q_int) (fun _ => (qw_or1 (qt_gt (q_lenS T.g_len (q_var (pv 0)) lim) (q_gint hL)))))) ?_) (fun h => nomatch h) (fun _ => sq_none ?_)
    · rw [decide_eq_false (by omega), decide_eq_false (by omega)]; rfl
    have hg : gnB z = z.cps.toList.all fun c => decide (c ∈ sgs) := by
      unfold gnB; rw [decide_eq_true hl.1, decide_eq_true hl.2]; rfl
    rcases loop z.cps.toList .un with ⟨h1, y', q⟩ | ⟨h1, q⟩
    · exact exs_cons (ex_for (i := 1) PassesOwn.never rfl nd rfl (.inl rfl) (it_str (q_var (pv 0))) q) (xret q_bool (by rw [hg, h1]))
    · rw [hg, h1]
      exact exs_stop (ex_for (i := 1) PassesOwn.never rfl nd rfl (.inl rfl) (it_str (q_var (pv 0))) q)
  · refine exs_if (p := true) (qt_to (qt_w (qw_or (qt_lt (q_lenS T.g_len (q_var (pv 0)) lim) q_int) (fun _ => (qw_or1 (qt_gt (q_lenS T.g_len (q_var (pv 0)) lim) (q_gint hL)))))) ?_) (fun _ => sq_stop (xret q_bool ?_)) (fun h => nomatch h)
    · by_cases a : 1 ≤ z.length
      · rw [decide_eq_false (by omega), decide_eq_true (by omega)]; rfl
      · rw [decide_eq_true (by omega)]; rfl
    · unfold gnB
      by_cases a : 1 ≤ z.length
      · rw [decide_eq_true a, decide_eq_false (fun b => hl ⟨a, b⟩)]; rfl
      · rw [decide_eq_false a]; rfl
/-! law -/
theorem sc_law : FnScope ["_law_script", "_law_row", "_law_good", "_law_some", "_law_body", "_law_at", "_law_text", "_law_due", "_law_sign", "_law_found"] ["_law_script"] (defScope (top 7)) := ⟨rfl, rfl, rfl, by decide +kernel, rfl, by decide +kernel, by decide +kernel⟩
theorem ok_law (T : Txt K mg) {f : Addr} {fd : FuncData} (Fu : Fun K "law" "law" (top 7) f fd) : FnOk P w K mg base CX0 2 f fd ["_law_script"] (spQ K (fun as x => ∃ ns : List Int, ns.length ≤ 63 ∧ as = [.da (.list (ns.map .int))] ∧ x = .da (.bool true))) := by
  refine fnOk_of (k := 1) Fu sc_law (fun as x ⟨_, _, h, _⟩ => by rw [h]; rfl) fun f cdv A outer s H E as r hr ⟨ns, hns, h1, h2⟩ => ?_
  subst h1; subst h2
  have nd := sc_law.nd
  refine .inl ?_
  show EXs _ [] E0 (defBody (top 7)) [.bo (.da (.list (ns.map .int))), .un, .un, .un, .un, .un, .un, .un, .un, .un] _
  have r8 : ∀ (y0 y1 y3 y4 y5 : Sv) (z : Str), z.length ≤ 1000 → EXs (cxOf CX0 P w K mg base ["_law_script", "_law_row", "_law_good", "_law_some", "_law_body", "_law_at", "_law_text", "_law_due", "_law_sign", "_law_found"] "law" (defScope (top 7)) f cdv A outer s H E).nox [] E0 ((defBody (top 7)).drop 8) [y0, y1, .ow (.da (.str sgS)), y3, y4, y5, .ow (.da (.str z)), .un, .un, .un] (.rt (.da (.bool true)) []) := by
    intro y0 y1 y3 y4 y5 z hz
    have lim : z.length ≤ sizeLine := Nat.le_trans hz (by decide)
    refine exs_cons (ex_set (i := 7) nd rfl (.inl rfl) (q_and (q_le q_int (q_lenS T.g_len (q_var (pv 6)) lim)) (fun _ => (q_one (q_le (q_lenS T.g_len (q_var (pv 6)) lim) q_int))))) ?_
    have loop : ∀ (cs : List Nat) (b : Bool) (y : Sv), ∃ y', FoP (cxOf CX0 P w K mg base ["_law_script", "_law_row", "_law_good", "_law_some", "_law_body", "_law_at", "_law_text", "_law_due", "_law_sign", "_law_found"] "law" (defScope (top 7)) f cdv A outer s H E).nox [] E0 8 (bodyOf (atS (defBody (top 7)) 9)) (cs.map fun c => .str (ch c)) [y0, y1, .ow (.da (.str sgS)), y3, y4, y5, .ow (.da (.str z)), .ow (.da (.bool b)), y, .un] (.nx [y0, y1, .ow (.da (.str sgS)), y3, y4, y5, .ow (.da (.str z)), .ow (.da (.bool (b && cs.all fun c => decide (c ∈ sgs)))), y', .un]) := by
      intro cs
      induction cs with
      | nil => intro b y; exact ⟨y, by rw [List.all_nil, Bool.and_true]; exact .nil⟩
      | cons c cs ih =>
        intro b y
        by_cases hc : c ∈ sgs
        · obtain ⟨y', q⟩ := ih b (.ow (.da (.str (ch c))))
          refine ⟨y', .next (exs_if (p := false) (qt_to (qt_notInS (c := c) (q_var (pv 8)) (q_var (pv 2))) (by show (!decide (c ∈ sgs)) = false; simp [hc])) (fun h => nomatch h) (fun _ => sq_none exs_nil)) ?_⟩
          rw [List.all_cons, decide_eq_true hc, Bool.true_and]
          exact q
        · obtain ⟨y', q⟩ := ih false (.ow (.da (.str (ch c))))
          refine ⟨y', .next (exs_if (p := true) (qt_to (qt_notInS (c := c) (q_var (pv 8)) (q_var (pv 2))) (by show (!decide (c ∈ sgs)) = true; simp [hc])) (fun _ => sq_next (exs_one (ex_set (i := 7) nd rfl (.inl rfl) q_bool)) exs_nil) (fun h => nomatch h)) ?_⟩
          rw [List.all_cons, decide_eq_false hc, Bool.false_and, Bool.and_false]
          rw [Bool.false_and] at q
          exact q
    obtain ⟨y', q⟩ := loop z.cps.toList (decide ((1 : Int) ≤ (z.length : Nat)) && decide (((z.length : Nat) : Int) ≤ 8)) .un
    refine exs_cons (ex_for (i := 8) PassesOwn.never rfl nd rfl (.inl rfl) (it_str (q_var (pv 6))) q) ?_
    refine exs_cons (ex_set (i := 9) nd rfl (.inl rfl) (q_call (ok_good_name T) hr (qas_cons (qa_v (q_var (pv 6))) qas_nil) ⟨z, rfl, hz, rfl⟩)) ?_
    refine xret (q_and (q_isi T.g_isinstance (q_var (pv 9)) (q_ty (T := "bool") T.g_bool (by decide +kernel)) (by exact k_bool_bool)) (fun _ => (q_one (q_eq hr (q_var (pv 9)) (q_var (pv 7)) (by rfl) (by rfl))))) ?_
    have e1 : decide ((1 : Int) ≤ (z.length : Nat)) = decide (1 ≤ z.length) := by congr 1; exact propext ⟨fun h => by omega, fun h => by omega⟩
    have e2 : decide (((z.length : Nat) : Int) ≤ 8) = decide (z.length ≤ 8) := by congr 1; exact propext ⟨fun h => by omega, fun h => by omega⟩
    rw [e1, e2]
    show Rs.da (.bool (true && PyData.eqv (.bool (gnB z)) (.bool (gnB z)))) = _
    simp [PyData.eqv]
  refine exs_cons (ex_set (i := 1) nd rfl (.inl rfl) (q_freeze (q_call (ok__law_digits T) hr (qas_cons (qa_v (q_call (ok__law_cell T) hr (qas_cons (qa_v (q_var (pv 0))) (qas_cons (qa_v q_int) qas_nil)) ⟨ns, 0, rfl, by decide, rfl⟩)) (qas_cons (qa_v (q_list (qs_cons q_int (qs_cons q_int (qs_cons q_int (qs_cons q_int (qs_cons q_int (qs_cons q_int qs_nil)))))))) qas_nil)) ⟨_, [4, 11, 70, 840, 95, 36], rfl, by decide, by decide, rfl⟩))) ?_
  have hb := digits_below (cell ns 0) [4, 11, 70, 840, 95, 36] (by decide)
  generalize digits (cell ns 0) [4, 11, 70, 840, 95, 36] = row at hb ⊢
  obtain ⟨r0, _, rfl, h00, h01, hb⟩ := below_cons hb
  obtain ⟨r1, _, rfl, h10, h11, hb⟩ := below_cons hb
  obtain ⟨r2, _, rfl, h20, h21, hb⟩ := below_cons hb
  obtain ⟨r3, _, rfl, h30, h31, hb⟩ := below_cons hb
  obtain ⟨r4, _, rfl, h40, h41, hb⟩ := below_cons hb
  obtain ⟨r5, _, rfl, h50, h51, hb⟩ := below_cons hb
  cases below_nil hb
  refine exs_cons (ex_set (i := 2) nd rfl (.inr rfl) q_str) ?_
  refine exs_cons (ex_set (i := 3) nd rfl (.inr rfl) (q_addS (q_addS q_str (q_var (pv 2)) (by decide +kernel)) q_str (by decide +kernel))) ?_
  obtain ⟨bl, bm⟩ := below_rep r1.toNat 36 _ (digits_below (cell ns 1) (List.replicate r1.toNat 36) (fun t ht => by rw [List.eq_of_mem_replicate ht]; decide))
  obtain ⟨cl, cm⟩ := below_rep r1.toNat 95 _ (digits_below (cell ns 1) (List.replicate r1.toNat 95) (fun t ht => by rw [List.eq_of_mem_replicate ht]; decide))
  refine exs_cons (ex_setLc (i := 5) (m := 4) (ds := (digits (cell ns 1) (List.replicate r1.toNat 36)).map .int) (es := ((digits (cell ns 1) (List.replicate r1.toNat 36)).map sgn).map fun z => .str (ch z)) rfl nd rfl rfl (sw_true rfl rfl rfl (by decide +kernel)) rfl (it_list (q_freeze (q_call (ok__law_digits T) hr (qas_cons (qa_v (q_call (ok__law_cell T) hr (qas_cons (qa_v (q_var (pv 0))) (qas_cons (qa_v q_int) qas_nil)) ⟨ns, 1, rfl, by decide, rfl⟩)) (qas_cons (qa_v (q_freeze (q_repL (q_listO (qs_cons q_int qs_nil)) (q_item (q_var (pv 1)) q_int rfl) h10 (by omega) (by show 1 * _ ≤ _; omega)))) qas_nil)) ⟨_, List.replicate r1.toNat 36, by rw [rep_flat], (fun t ht => by rw [List.eq_of_mem_replicate ht]; decide), (by rw [List.length_replicate]; omega), rfl⟩))) (blkOk_by (N := ["_law_script", "_law_row", "_law_good", "_law_some", "_law_body", "_law_at", "_law_text", "_law_due", "_law_sign", "_law_found"]) (sc := defScope (top 7)) (by decide +kernel)) (fun _ _ _ _ _ => pg_name (i := 5) nd rfl (Or.inl rfl)) (by simp) (by rw [List.length_map]; omega) (fun _ _ _ _ _ j d y hd hy => ?_)) ?_
  · rw [List.getElem?_map] at hd
    rw [List.getElem?_map, List.getElem?_map] at hy
    cases hq : (digits (cell ns 1) (List.replicate r1.toNat 36))[j]? with
    | none => rw [hq] at hd; cases hd
    | some z =>
      rw [hq] at hd hy
      cases hd; cases hy
      obtain ⟨z0, z1⟩ := bm z (List.mem_of_getElem? hq)
      exact q_itemS (q_var (pv 2)) (q_var (pv 5)) (by decide +kernel) (atI_sgn z0 z1)
  have r6 : ∀ (y5 : Sv) (cs : List Nat), cs.length ≤ 10 → EXs (cxOf CX0 P w K mg base ["_law_script", "_law_row", "_law_good", "_law_some", "_law_body", "_law_at", "_law_text", "_law_due", "_law_sign", "_law_found"] "law" (defScope (top 7)) f cdv A outer s H E).nox [] E0 ((defBody (top 7)).drop 6) [.bo (.da (.list (ns.map .int))), .ow (.da (.list [.int r0, .int r1, .int r2, .int r3, .int r4, .int r5])), .ow (.da (.str sgS)), .ow (.da (.str someS)), .ow (.lst (cs.map fun z => .str (ch z))), y5, .un, .un, .un, .un] (.rt (.da (.bool true)) []) := by
    intro y5 cs hcs
    refine exs_cons (ex_set (i := 6) nd rfl (.inl rfl) (q_to (q_join (ys := cs.map ch) q_str (qa_var (pv 4)) (by show some _ = some _; rw [List.map_map]; rfl) (by
      rw [sum_ch]
      have z0 : (Str.ofString "").length = 0 := by decide +kernel
      rw [z0, Nat.mul_zero, Nat.add_zero]
      exact Nat.le_trans hcs (by decide))) (show _ = Rs.da (.str (mkS cs)) by rw [join_ch]))) ?_
    exact exs_if (qt_eqI (q_item (q_var (pv 1)) q_int rfl) q_int) (fun h => sq_next (exs_one (ex_set (i := 6) nd rfl (.inl rfl) (q_repS (q_itemS (q_var (pv 2)) (q_item (q_var (pv 1)) q_int rfl) (by decide +kernel) (atI_sgn h50 h51)) (q_item (q_var (pv 1)) q_int rfl) (PyProof.Rows.mulOk_of 1 70 (by show (1 : Nat) ≤ 1; decide) (by omega) (by omega) (by decide) (by decide))))) (r8 _ _ _ _ _ _ (Nat.le_trans (PyProof.Rows.len_mul_leN (L := 1) (N := 70) (by show (1 : Nat) ≤ 1; decide) (by omega)) (by decide)))) (fun h => sq_none (r8 _ _ _ _ _ _ (Nat.le_trans hcs (by decide))))
  have r5' : ∀ (cs : List Nat), cs.length = r1.toNat → ∀ (y5 : Sv), EXs (cxOf CX0 P w K mg base ["_law_script", "_law_row", "_law_good", "_law_some", "_law_body", "_law_at", "_law_text", "_law_due", "_law_sign", "_law_found"] "law" (defScope (top 7)) f cdv A outer s H E).nox [] E0 ((defBody (top 7)).drop 5) [.bo (.da (.list (ns.map .int))), .ow (.da (.list [.int r0, .int r1, .int r2, .int r3, .int r4, .int r5])), .ow (.da (.str sgS)), .ow (.da (.str someS)), .ow (.lst (cs.map fun z => .str (ch z))), y5, .un, .un, .un, .un] (.rt (.da (.bool true)) []) := by
    intro cs hcs y5
    refine exs_if (qt_eqI (q_item (q_var (pv 1)) q_int rfl) q_int) (fun h => sq_next (exs_one (ex_setLc (i := 5) (m := 4) (ds := (digits (cell ns 1) (List.replicate r1.toNat 95)).map .int) (es := ((digits (cell ns 1) (List.replicate r1.toNat 95)).map smn).map fun z => .str (ch z)) rfl nd rfl rfl (sw_true rfl rfl rfl (by decide +kernel)) rfl (it_list (q_freeze (q_call (ok__law_digits T) hr (qas_cons (qa_v (q_call (ok__law_cell T) hr (qas_cons (qa_v (q_var (pv 0))) (qas_cons (qa_v q_int) qas_nil)) ⟨ns, 1, rfl, by decide, rfl⟩)) (qas_cons (qa_v (q_freeze (q_repL (q_listO (qs_cons q_int qs_nil)) (q_item (q_var (pv 1)) q_int rfl) h10 (by omega) (by show 1 * _ ≤ _; omega)))) qas_nil)) ⟨_, List.replicate r1.toNat 95, by rw [rep_flat], (fun t ht => by rw [List.eq_of_mem_replicate ht]; decide), (by rw [List.length_replicate]; omega), rfl⟩))) (blkOk_by (N := ["_law_script", "_law_row", "_law_good", "_law_some", "_law_body", "_law_at", "_law_text", "_law_due", "_law_sign", "_law_found"]) (sc := defScope (top 7)) (by decide +kernel)) (fun _ _ _ _ _ => pg_name (i := 5) nd rfl (Or.inl rfl)) (by simp) (by rw [List.length_map]; omega) (fun _ _ _ _ _ j d y hd hy => ?_))) (r6 _ _ (by rw [List.length_map]; omega))) (fun h => sq_none (r6 _ _ (by omega)))
    rw [List.getElem?_map] at hd
    rw [List.getElem?_map, List.getElem?_map] at hy
    cases hq : (digits (cell ns 1) (List.replicate r1.toNat 95))[j]? with
    | none => rw [hq] at hd; cases hd
    | some z =>
      rw [hq] at hd hy
      cases hd; cases hy
      obtain ⟨z0, z1⟩ := cm z (List.mem_of_getElem? hq)
      exact q_itemS (q_var (pv 3)) (q_var (pv 5)) (by decide +kernel) (atI_smn z0 z1)
  generalize hcs : (digits (cell ns 1) (List.replicate r1.toNat 36)).map sgn = cs
  have hcl : cs.length = r1.toNat := by rw [← hcs, List.length_map, bl]
  show EXs _ [] E0 ((defBody (top 7)).drop 4) [.bo (.da (.list (ns.map .int))), .ow (.da (.list [.int r0, .int r1, .int r2, .int r3, .int r4, .int r5])), .ow (.da (.str sgS)), .ow (.da (.str someS)), .ow (.lst (cs.map fun z => .str (ch z))), .un, .un, .un, .un, .un] _
  by_cases hc : r0 = 1 ∧ 0 < r1
  · have m0 := Int.emod_nonneg r3 (show r1 ≠ 0 by omega)
    have m1 := Int.emod_lt_of_pos r3 hc.2
    refine exs_if (p := true) (qt_to (qt_w (qw_and (qt_eqI (q_item (q_var (pv 1)) q_int rfl) q_int) (fun _ => (qw_and1 (qt_gt (q_item (q_var (pv 1)) q_int rfl) q_int))))) (by rw [decide_eq_true hc.1, decide_eq_true hc.2]; rfl)) (fun _ => sq_next (exs_one (ex_setItem (i := 4) (k := r3 % r1) (j := (r3 % r1).toNat) (pv 4) rfl (q_itemS (q_var (pv 3)) (q_item (q_var (pv 1)) q_int rfl) (by decide +kernel) (atI_smn h40 h41)) (q_mod (q_item (q_var (pv 1)) q_int rfl) (q_item (q_var (pv 1)) q_int rfl) hc.2) ?_)) ?_) (fun h => nomatch h)
    · rw [List.length_map, hcl]
      unfold ixN
      rw [if_pos m0, if_pos (by omega)]
    · have e : (cs.map fun z => PyData.str (ch z)).set (r3 % r1).toNat (.str (ch (smn r4))) = (cs.set (r3 % r1).toNat (smn r4)).map fun z => .str (ch z) := by rw [List.map_set]
      have := r5' (cs.set (r3 % r1).toNat (smn r4)) (by rw [List.length_set]; exact hcl) .un
      rw [← e] at this
      exact this
  · refine exs_if (p := false) (qt_to (qt_w (qw_and (qt_eqI (q_item (q_var (pv 1)) q_int rfl) q_int) (fun _ => (qw_and1 (qt_gt (q_item (q_var (pv 1)) q_int rfl) q_int))))) ?_) (fun h => nomatch h) (fun _ => sq_none (r5' cs hcl .un))
    by_cases a : r0 = 1
    · rw [decide_eq_true a, decide_eq_false (fun b => hc ⟨a, b⟩)]; rfl
    · rw [decide_eq_false a]; rfl
end
theorem all_mk {l : PySem.W.OpenLaw} {w : World} {K : PySem.W.Frag} {h : Heap} {mg : Str → Option Value} {fa : Addr} (X : K.In h) (G : h.Ns mainGlobals mg) (hfa : mg "law" = some (.ref fa))
    {f0 : Addr} {oc0 kV0 dc0 pm0 cd0 ct0 : Value} {od0 an0 : Option Addr} {sl0 : Array (Option Value)}
    {f1 : Addr} {oc1 kV1 dc1 pm1 cd1 ct1 : Value} {od1 an1 : Option Addr} {sl1 : Array (Option Value)}
    {f2 : Addr} {oc2 kV2 dc2 pm2 cd2 ct2 : Value} {od2 an2 : Option Addr} {sl2 : Array (Option Value)}
    {f3 : Addr} {oc3 kV3 dc3 pm3 cd3 ct3 : Value} {od3 an3 : Option Addr} {sl3 : Array (Option Value)}
    {t_LONGEST : Tok}
    {t_SIGNS : Tok}
    (a0 : PySem.W.nsIn K mainGlobals "_law_cell" = some (some (.ref f0))) (l0 : K.lookup f0 = some ⟨oc0, od0, .func (PySem.W.fnOf "_law_cell" "_law_cell" (defArgs (top 5)) (defBody (top 5)) (defScope (top 5)) .none kV0 dc0 pm0 an0 cd0 ct0), sl0⟩) (c0 : PySem.W.codeIn K cd0 "_law_cell" = true) (k0 : PySem.W.keepIn K (.ref f0) = true)
    (a1 : PySem.W.nsIn K mainGlobals "_law_digits" = some (some (.ref f1))) (l1 : K.lookup f1 = some ⟨oc1, od1, .func (PySem.W.fnOf "_law_digits" "_law_digits" (defArgs (top 6)) (defBody (top 6)) (defScope (top 6)) .none kV1 dc1 pm1 an1 cd1 ct1), sl1⟩) (c1 : PySem.W.codeIn K cd1 "_law_digits" = true) (k1 : PySem.W.keepIn K (.ref f1) = true)
    (a2 : PySem.W.nsIn K mainGlobals "good_name" = some (some (.ref f2))) (l2 : K.lookup f2 = some ⟨oc2, od2, .func (PySem.W.fnOf "good_name" "good_name" (defArgs (top 3)) (defBody (top 3)) (defScope (top 3)) .none kV2 dc2 pm2 an2 cd2 ct2), sl2⟩) (c2 : PySem.W.codeIn K cd2 "good_name" = true) (k2 : PySem.W.keepIn K (.ref f2) = true)
    (a3 : PySem.W.nsIn K mainGlobals "law" = some (some (.ref f3))) (l3 : K.lookup f3 = some ⟨oc3, od3, .func (PySem.W.fnOf "law" "law" (defArgs (top 7)) (defBody (top 7)) (defScope (top 7)) .none kV3 dc3 pm3 an3 cd3 ct3), sl3⟩) (c3 : PySem.W.codeIn K cd3 "law" = true) (k3 : PySem.W.keepIn K (.ref f3) = true)
    (z_bool : PySem.W.nsIn K mainGlobals "bool" = some none)
    (z_isinstance : PySem.W.nsIn K mainGlobals "isinstance" = some none)
    (z_len : PySem.W.nsIn K mainGlobals "len" = some none)
    (z_range : PySem.W.nsIn K mainGlobals "range" = some none)
    (q_LONGEST : PySem.W.nsIn K mainGlobals "LONGEST" = some (some (.int 8 t_LONGEST)))
    (q_SIGNS : PySem.W.nsIn K mainGlobals "SIGNS" = some (some (.str "abcdefghijklmnopqrstuvwxyz0123456789" t_SIGNS))) :
    ∃ fd : FuncData, (∀ (s : Shared) (v : Value), BindsTo s fd ⟨[v], []⟩ [("_law_script", v)]) ∧ ∀ base : Heap, K.In base → base.Ns mainGlobals mg → FnOk l.prog w K mg base CX0 2 fa fd ["_law_script"] (spLaw K) := by
  have T : Txt K mg := { d__law_cell := df_mk X G a0 l0 c0 k0, d__law_digits := df_mk X G a1 l1 c1 k1, d_good_name := df_mk X G a2 l2 c2 k2, d_law := df_mk X G a3 l3 c3 k3, g_bool := PySem.W.mg_none_of X G z_bool, g_isinstance := PySem.W.mg_none_of X G z_isinstance, g_len := PySem.W.mg_none_of X G z_len, g_range := PySem.W.mg_none_of X G z_range, c_LONGEST := ⟨_, PySem.W.mg_of X G q_LONGEST⟩, c_SIGNS := ⟨_, PySem.W.mg_of X G q_SIGNS⟩ }
  exact law_fn (st := (top 7)) T.d_law (fun _ _ _ _ _ _ us hl => match us, hl with | [_], _ => rfl) hfa fun base _ _ f fd Fu => ok_law T Fu
end Lw

open PySem PySem.W PyProof.Rows
set_option maxRecDepth 100000 in
set_option maxHeartbeats 0 in
theorem PySem.Challenge.cw_overhaul_k06_good_names_holds : PySem.Challenge.rw_overhaul_k06_good_names.Holds := by
  w_on; o_law; k_head; (case hw => w_witness2)
  k_fill
  refine Bg.law_walk (l := PySem.Challenge.rw_overhaul_k06_good_names) (k := 2) (by decide) rfl rfl (fun w h Y => PySem.W.kIn_of Y) ?F
  case F =>
    intro w mg fa h KX G hmg
    refine' Lw.all_mk KX G hmg ?a0 ?l0 ?c0 ?k0 ?a1 ?l1 ?c1 ?k1 ?a2 ?l2 ?c2 ?k2 ?a3 ?l3 ?c3 ?k3 ?z_bool ?z_isinstance ?z_len ?z_range ?q_LONGEST ?q_SIGNS
    (case a0 => k_is)
    (case l0 => k_is)
    (case c0 => k_is)
    (case k0 => k_is)
    (case a1 => k_is)
    (case l1 => k_is)
    (case c1 => k_is)
    (case k1 => k_is)
    (case a2 => k_is)
    (case l2 => k_is)
    (case c2 => k_is)
    (case k2 => k_is)
    (case a3 => k_is)
    (case l3 => k_is)
    (case c3 => k_is)
    (case k3 => k_is)
    (case z_bool => k_is)
    (case z_isinstance => k_is)
    (case z_len => k_is)
    (case z_range => k_is)
    (case q_LONGEST => k_is)
    (case q_SIGNS => k_is)
#print axioms PySem.Challenge.cw_overhaul_k06_good_names_holds
