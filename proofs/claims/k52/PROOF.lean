import PyProof.Rows.All
import Wide.All
import OpenK.AllK
import Wide.FinOn
import HandS.ForMost
import HandS.ForExc
import HandS.Wide
import HandS.HeadHook1
import HandS.Deep
import HandS.Text
import HandS.IsInst
import PyProof.StrBlock2
import PyProof.Rows.StrMul
import HandS.Conv
import HandS.Defaults
import HandS.DictTup
import HandS.More
import HandS.HeadEnd
import HandS.Head0
import HandS.Head1
import HandS.Head2
import HandS.HeadHook2
import KE.KStateDown
import HandS.Comp
import HandS.ExcIs
import KE.SortData
import HandS.SortRule
import HandS.FStr
import HandS.RaiseMore
import PySem.Challenge.RW_overhaul_k52_a_line_read
import HandS.Codes
import KE.IntTextLaws
set_option Elab.async false
set_option linter.all false
set_option maxRecDepth 100000
set_option maxHeartbeats 4000000
/-! Things of one's own as trees: the state. -/
namespace Cg
open PySem L2

/-- what a thing holds; un: not known; da: data that never change; dct n: locked by the loop n - 1 (0: free) -/
inductive Rs where
  | un
  | scr (ns : List Int)
  | da (d : PyData)
  | lst (ds : List PyData)
  | dct (n : Nat) (kvs : List (Key × Rs))
  | dtt (kvs : List (List Key × PyData))
  | ins (c : Str) (fs : List (Str × Rs))
  | tup (rs : List Rs)
  | lsr (rs : List Rs)
abbrev VR := V × Rs
/-- a loop's lock: the dict's place, its object, its pairs -/
abbrev Lk := Addr × Obj × List (Key × V)
inductive Mo where
  | own (tk : List Lk) | rdo
def DctAt (m : Mo) (H : Hp) (n : Nat) (a : Addr) (kv : List (Key × V)) : Prop := match m with
  | .rdo => Rd H a (.dK kv)
  | .own tk => match n with
    | 0 => H a = some (.dK kv)
    | n + 1 => ∃ o, tk[n]? = some (a, o, kv) ∧ H a = some (.frz o (.dK kv))
theorem dctAt_keep {m : Mo} {H H' : Hp} {n : Nat} {a : Addr} {kv : List (Key × V)} (f : ∀ o, H a = some o → H' a = some o) (h : DctAt m H n a kv) : DctAt m H' n a kv := by
  cases m with
  | rdo =>
    rcases h with h | ⟨o, h⟩
    · exact .inl (f _ h)
    · exact .inr ⟨o, f _ h⟩
  | own tk =>
    cases n with
    | zero => exact f _ h
    | succ n => obtain ⟨o, h1, h2⟩ := h; exact ⟨o, h1, f _ h2⟩
theorem dctAt_some {m : Mo} {H : Hp} {n : Nat} {a : Addr} {kv : List (Key × V)} (h : DctAt m H n a kv) : ∃ o, H a = some o := by
  cases m with
  | rdo =>
    rcases h with h | ⟨o, h⟩
    · exact ⟨_, h⟩
    · exact ⟨_, h⟩
  | own tk =>
    cases n with
    | zero => exact ⟨_, h⟩
    | succ n => obtain ⟨o, h1, h2⟩ := h; exact ⟨_, h2⟩
theorem dctAt_rd {m : Mo} {H : Hp} {n : Nat} {a : Addr} {kv : List (Key × V)} (h : DctAt m H n a kv) : Rd H a (.dK kv) := by
  cases m with
  | rdo => exact h
  | own tk =>
    cases n with
    | zero => exact .inl h
    | succ n => obtain ⟨o, h1, h2⟩ := h; exact .inr ⟨_, h2⟩

/-! data: what stands in H, list for list and tuple for tuple -/
mutual
inductive Dp (K : PySem.W.Frag) (H : Hp) : V → PyData → Prop
  | non : Dp K H .non .none
  | bl (b : Bool) : Dp K H (.bl b) (.bool b)
  | int (i : Int) : Dp K H (.int i) (.int i)
  | str (x : Str) : Dp K H (.str x) (.str x)
  | lst {a : Addr} {xs : List V} {ds : List PyData} : H a = some (.lst xs) → DpAll K H xs ds → Dp K H (.ref a) (.list ds)
  | tup {a : Addr} {xs : List V} {ds : List PyData} : H a = some (.tup xs) → DpAll K H xs ds → Dp K H (.ref a) (.tuple ds)
inductive DpAll (K : PySem.W.Frag) (H : Hp) : List V → List PyData → Prop
  | nil : DpAll K H [] []
  | cons {v : V} {vs : List V} {d : PyData} {ds : List PyData} : Dp K H v d → DpAll K H vs ds → DpAll K H (v :: vs) (d :: ds)
end
section
variable {K : PySem.W.Frag}
mutual
theorem dp_l2 {H : Hp} : ∀ {v : V} {d : PyData}, Dp K H v d → L2.Dp K H v d
  | _, _, .non => .non
  | _, _, .bl b => .bl b
  | _, _, .int i => .int i
  | _, _, .str x => .str x
  | _, _, .lst h t => .lst (SqL.of h) (dpAll_l2 t)
  | _, _, .tup h t => .tup (SqT.of h) (dpAll_l2 t)
theorem dpAll_l2 {H : Hp} : ∀ {vs : List V} {ds : List PyData}, DpAll K H vs ds → L2.DpAll K H vs ds
  | _, _, .nil => .nil
  | _, _, .cons h t => .cons (dp_l2 h) (dpAll_l2 t)
end
mutual
theorem dp_mono {H H' : Hp} (e : Same H H') : ∀ {v : V} {d : PyData}, Dp K H v d → Dp K H' v d
  | _, _, .non => .non
  | _, _, .bl b => .bl b
  | _, _, .int i => .int i
  | _, _, .str x => .str x
  | _, _, .lst h t => .lst (e _ _ h) (dpAll_mono e t)
  | _, _, .tup h t => .tup (e _ _ h) (dpAll_mono e t)
theorem dpAll_mono {H H' : Hp} (e : Same H H') : ∀ {vs : List V} {ds : List PyData}, DpAll K H vs ds → DpAll K H' vs ds
  | _, _, .nil => .nil
  | _, _, .cons h t => .cons (dp_mono e h) (dpAll_mono e t)
end
theorem dpAll_length {H : Hp} : ∀ {vs : List V} {ds : List PyData}, DpAll K H vs ds → vs.length = ds.length
  | _, _, .nil => rfl
  | _, _, .cons _ t => by simp [dpAll_length t]
theorem dpAll_append {H : Hp} : ∀ {vs ws : List V} {ds es : List PyData}, DpAll K H vs ds → DpAll K H ws es → DpAll K H (vs ++ ws) (ds ++ es)
  | _, _, _, _, .nil, h => h
  | _, _, _, _, .cons h t, h' => .cons h (dpAll_append t h')
theorem dpAll_get {H : Hp} : ∀ {vs : List V} {ds : List PyData} {i : Nat} {d : PyData}, DpAll K H vs ds → ds[i]? = some d → ∃ v, vs[i]? = some v ∧ Dp K H v d
  | _, _, _, _, .nil, h => by simp at h
  | _, _, 0, _, .cons h _, e => by simp at e; subst e; exact ⟨_, rfl, h⟩
  | _, _, i + 1, _, .cons _ t, e => by
    obtain ⟨v, h1, h2⟩ := dpAll_get (i := i) t (by simpa using e)
    exact ⟨v, by simpa using h1, h2⟩
theorem dpAll_set {H : Hp} : ∀ {vs : List V} {ds : List PyData} (i : Nat) {v : V} {d : PyData}, DpAll K H vs ds → Dp K H v d → DpAll K H (vs.set i v) (ds.set i d)
  | _, _, _, _, _, .nil, _ => .nil
  | _, _, 0, _, _, .cons _ t, h => .cons h t
  | _, _, i + 1, _, _, .cons q t, h => .cons q (dpAll_set i t h)
theorem dpAll_take {H : Hp} : ∀ {vs : List V} {ds : List PyData} (n : Nat), DpAll K H vs ds → DpAll K H (vs.take n) (ds.take n)
  | _, _, 0, _ => .nil
  | _, _, _ + 1, .nil => .nil
  | _, _, n + 1, .cons h t => .cons h (dpAll_take n t)
theorem dpAll_drop {H : Hp} : ∀ {vs : List V} {ds : List PyData} (n : Nat), DpAll K H vs ds → DpAll K H (vs.drop n) (ds.drop n)
  | _, _, 0, h => h
  | _, _, _ + 1, .nil => .nil
  | _, _, n + 1, .cons _ t => dpAll_drop n t
theorem dpAll_eraseIdx {H : Hp} : ∀ {vs : List V} {ds : List PyData} (n : Nat), DpAll K H vs ds → DpAll K H (vs.eraseIdx n) (ds.eraseIdx n)
  | _, _, _, .nil => .nil
  | _, _, 0, .cons h t => t
  | _, _, n + 1, .cons h t => .cons h (dpAll_eraseIdx n t)
theorem dpAll_reverse {H : Hp} {vs : List V} {ds : List PyData} (h : DpAll K H vs ds) : DpAll K H vs.reverse ds.reverse := by
  induction vs generalizing ds with
  | nil => cases h; exact .nil
  | cons v vs ih =>
    cases h with
    | cons a t => rw [List.reverse_cons, List.reverse_cons]; exact dpAll_append (ih t) (.cons a .nil)
theorem dp_int {H : Hp} {v : V} {i : Int} (h : Dp K H v (.int i)) : v = .int i := by cases h; rfl
theorem dp_bool {H : Hp} {v : V} {i : Bool} (h : Dp K H v (.bool i)) : v = .bl i := by cases h; rfl
theorem dp_str {H : Hp} {v : V} {i : Str} (h : Dp K H v (.str i)) : v = .str i := by cases h; rfl
theorem dp_none {H : Hp} {v : V} (h : Dp K H v .none) : v = .non := by cases h; rfl
theorem dp_tup {H : Hp} {v : V} {ds : List PyData} (h : Dp K H v (.tuple ds)) : ∃ a xs, v = .ref a ∧ H a = some (.tup xs) ∧ DpAll K H xs ds := by cases h with | tup a b => exact ⟨_, _, rfl, a, b⟩
theorem dp_lst {H : Hp} {v : V} {ds : List PyData} (h : Dp K H v (.list ds)) : ∃ a xs, v = .ref a ∧ H a = some (.lst xs) ∧ DpAll K H xs ds := by cases h with | lst a b => exact ⟨_, _, rfl, a, b⟩
end

mutual
inductive Own (K : PySem.W.Frag) (m : Mo) (Hs H : Hp) : V → Rs → List Addr → Prop
  | un {v : V} : Own K m Hs H v .un []
  | scr {a : Addr} {ns : List Int} : SqL K Hs a (ns.map V.int) → Own K m Hs H (.ref a) (.scr ns) []
  | da {v : V} {d : PyData} : Dp K Hs v d → Own K m Hs H v (.da d) []
  | lst {a : Addr} {xs : List V} {ds : List PyData} : H a = some (.lst xs) → DpAll K Hs xs ds → Own K m Hs H (.ref a) (.lst ds) [a]
  | dct {a : Addr} {n : Nat} {kvv : List (Key × V)} {kvs : List (Key × Rs)} {fp : List Addr} : DctAt m H n a kvv → (kvv.map (·.1)).Nodup → OwnK K m Hs H kvv kvs fp → Own K m Hs H (.ref a) (.dct n kvs) (a :: fp)
  | dtt {a : Addr} {kvv : List (List Key × V)} {kvs : List (List Key × PyData)} : H a = some (.dT kvv) → kvv.map (·.1) = kvs.map (·.1) → DpAll K Hs (kvv.map (·.2)) (kvs.map (·.2)) → Own K m Hs H (.ref a) (.dtt kvs) [a]
  | ins {a dx : Addr} {c : Str} {fv : List (Str × V)} {fs : List (Str × Rs)} {fp : List Addr} : H a = some (.ins (He.ga K c) dx fv) → OwnF K m Hs H fv fs fp → Own K m Hs H (.ref a) (.ins c fs) (a :: fp)
  | tup {a : Addr} {xs : List V} {rs : List Rs} {fp : List Addr} : H a = some (.tup xs) → OwnS K m Hs H xs rs fp → Own K m Hs H (.ref a) (.tup rs) (a :: fp)
  | lsr {a : Addr} {xs : List V} {rs : List Rs} {fp : List Addr} : H a = some (.lst xs) → OwnS K m Hs H xs rs fp → Own K m Hs H (.ref a) (.lsr rs) (a :: fp)
inductive OwnK (K : PySem.W.Frag) (m : Mo) (Hs H : Hp) : List (Key × V) → List (Key × Rs) → List Addr → Prop
  | nil : OwnK K m Hs H [] [] []
  | cons {k : Key} {v : V} {r : Rs} {fp fps : List Addr} {t : List (Key × V)} {u : List (Key × Rs)} : Own K m Hs H v r fp → OwnK K m Hs H t u fps → OwnK K m Hs H ((k, v) :: t) ((k, r) :: u) (fp ++ fps)
inductive OwnF (K : PySem.W.Frag) (m : Mo) (Hs H : Hp) : List (Str × V) → List (Str × Rs) → List Addr → Prop
  | nil : OwnF K m Hs H [] [] []
  | cons {k : Str} {v : V} {r : Rs} {fp fps : List Addr} {t : List (Str × V)} {u : List (Str × Rs)} : Own K m Hs H v r fp → OwnF K m Hs H t u fps → OwnF K m Hs H ((k, v) :: t) ((k, r) :: u) (fp ++ fps)
inductive OwnS (K : PySem.W.Frag) (m : Mo) (Hs H : Hp) : List V → List Rs → List Addr → Prop
  | nil : OwnS K m Hs H [] [] []
  | cons {v : V} {r : Rs} {fp fps : List Addr} {t : List V} {u : List Rs} : Own K m Hs H v r fp → OwnS K m Hs H t u fps → OwnS K m Hs H (v :: t) (r :: u) (fp ++ fps)
end
inductive OwnL (K : PySem.W.Frag) (m : Mo) (Hs H : Hp) : List VR → List Addr → Prop
  | nil : OwnL K m Hs H [] []
  | cons {v : V} {r : Rs} {fp fps : List Addr} {L : List VR} : Own K m Hs H v r fp → OwnL K m Hs H L fps → OwnL K m Hs H ((v, r) :: L) (fp ++ fps)

section
variable {K : PySem.W.Frag} {m m' : Mo} {Hs Hs' H H' : Hp}
mutual
/-- the general carrying over -/
theorem own_map {P : Addr → Prop} (e : Same Hs Hs') (fd : ∀ n a kv, P a → DctAt m H n a kv → DctAt m' H' n a kv) (fo : ∀ a o, P a → H a = some o → (∀ kv, o ≠ .dK kv) → H' a = some o) : ∀ {v : V} {r : Rs} {fp : List Addr}, Own K m Hs H v r fp → (∀ a ∈ fp, P a) → Own K m' Hs' H' v r fp
  | _, _, _, .un, _ => .un
  | _, _, _, .scr h, _ => .scr (e.seq h)
  | _, _, _, .da d, _ => .da (dp_mono e d)
  | _, _, _, .lst h t, f => .lst (fo _ _ (f _ (by simp)) h (fun _ z => nomatch z)) (dpAll_mono e t)
  | _, _, _, .dct h nk t, f => .dct (fd _ _ _ (f _ (by simp)) h) nk (ownK_map e fd fo t fun a m => f a (by simp [m]))
  | _, _, _, .dtt h k t, f => .dtt (fo _ _ (f _ (by simp)) h (fun _ z => nomatch z)) k (dpAll_mono e t)
  | _, _, _, .ins h t, f => .ins (fo _ _ (f _ (by simp)) h (fun _ z => nomatch z)) (ownF_map e fd fo t fun a m => f a (by simp [m]))
  | _, _, _, .tup h t, f => .tup (fo _ _ (f _ (by simp)) h (fun _ z => nomatch z)) (ownS_map e fd fo t fun a m => f a (by simp [m]))
  | _, _, _, .lsr h t, f => .lsr (fo _ _ (f _ (by simp)) h (fun _ z => nomatch z)) (ownS_map e fd fo t fun a m => f a (by simp [m]))
theorem ownK_map {P : Addr → Prop} (e : Same Hs Hs') (fd : ∀ n a kv, P a → DctAt m H n a kv → DctAt m' H' n a kv) (fo : ∀ a o, P a → H a = some o → (∀ kv, o ≠ .dK kv) → H' a = some o) : ∀ {v : List (Key × V)} {r : List (Key × Rs)} {fp : List Addr}, OwnK K m Hs H v r fp → (∀ a ∈ fp, P a) → OwnK K m' Hs' H' v r fp
  | _, _, _, .nil, _ => .nil
  | _, _, _, .cons h t, f => .cons (own_map e fd fo h fun a m => f a (by simp [m])) (ownK_map e fd fo t fun a m => f a (by simp [m]))
theorem ownF_map {P : Addr → Prop} (e : Same Hs Hs') (fd : ∀ n a kv, P a → DctAt m H n a kv → DctAt m' H' n a kv) (fo : ∀ a o, P a → H a = some o → (∀ kv, o ≠ .dK kv) → H' a = some o) : ∀ {v : List (Str × V)} {r : List (Str × Rs)} {fp : List Addr}, OwnF K m Hs H v r fp → (∀ a ∈ fp, P a) → OwnF K m' Hs' H' v r fp
  | _, _, _, .nil, _ => .nil
  | _, _, _, .cons h t, f => .cons (own_map e fd fo h fun a m => f a (by simp [m])) (ownF_map e fd fo t fun a m => f a (by simp [m]))
theorem ownS_map {P : Addr → Prop} (e : Same Hs Hs') (fd : ∀ n a kv, P a → DctAt m H n a kv → DctAt m' H' n a kv) (fo : ∀ a o, P a → H a = some o → (∀ kv, o ≠ .dK kv) → H' a = some o) : ∀ {v : List V} {r : List Rs} {fp : List Addr}, OwnS K m Hs H v r fp → (∀ a ∈ fp, P a) → OwnS K m' Hs' H' v r fp
  | _, _, _, .nil, _ => .nil
  | _, _, _, .cons h t, f => .cons (own_map e fd fo h fun a m => f a (by simp [m])) (ownS_map e fd fo t fun a m => f a (by simp [m]))
end
theorem ownL_map {P : Addr → Prop} (e : Same Hs Hs') (fd : ∀ n a kv, P a → DctAt m H n a kv → DctAt m' H' n a kv) (fo : ∀ a o, P a → H a = some o → (∀ kv, o ≠ .dK kv) → H' a = some o) : ∀ {L : List VR} {fp : List Addr}, OwnL K m Hs H L fp → (∀ a ∈ fp, P a) → OwnL K m' Hs' H' L fp
  | _, _, .nil, _ => .nil
  | _, _, .cons h t, f => .cons (own_map e fd fo h fun a m => f a (by simp [m])) (ownL_map e fd fo t fun a m => f a (by simp [m]))
mutual
theorem own_mono (e : Same Hs Hs') : ∀ {v : V} {r : Rs} {fp : List Addr}, Own K m Hs H v r fp → (∀ a ∈ fp, ∀ o, H a = some o → H' a = some o) → Own K m Hs' H' v r fp
  | _, _, _, .un, _ => .un
  | _, _, _, .scr h, _ => .scr (e.seq h)
  | _, _, _, .da d, _ => .da (dp_mono e d)
  | _, _, _, .lst h t, f => .lst (f _ (by simp) _ h) (dpAll_mono e t)
  | _, _, _, .dct h nk t, f => .dct (dctAt_keep (f _ (by simp)) h) nk (ownK_mono e t fun a m => f a (by simp [m]))
  | _, _, _, .dtt h k t, f => .dtt (f _ (by simp) _ h) k (dpAll_mono e t)
  | _, _, _, .ins h t, f => .ins (f _ (by simp) _ h) (ownF_mono e t fun a m => f a (by simp [m]))
  | _, _, _, .tup h t, f => .tup (f _ (by simp) _ h) (ownS_mono e t fun a m => f a (by simp [m]))
  | _, _, _, .lsr h t, f => .lsr (f _ (by simp) _ h) (ownS_mono e t fun a m => f a (by simp [m]))
theorem ownK_mono (e : Same Hs Hs') : ∀ {v : List (Key × V)} {r : List (Key × Rs)} {fp : List Addr}, OwnK K m Hs H v r fp → (∀ a ∈ fp, ∀ o, H a = some o → H' a = some o) → OwnK K m Hs' H' v r fp
  | _, _, _, .nil, _ => .nil
  | _, _, _, .cons h t, f => .cons (own_mono e h fun a m => f a (by simp [m])) (ownK_mono e t fun a m => f a (by simp [m]))
theorem ownF_mono (e : Same Hs Hs') : ∀ {v : List (Str × V)} {r : List (Str × Rs)} {fp : List Addr}, OwnF K m Hs H v r fp → (∀ a ∈ fp, ∀ o, H a = some o → H' a = some o) → OwnF K m Hs' H' v r fp
  | _, _, _, .nil, _ => .nil
  | _, _, _, .cons h t, f => .cons (own_mono e h fun a m => f a (by simp [m])) (ownF_mono e t fun a m => f a (by simp [m]))
theorem ownS_mono (e : Same Hs Hs') : ∀ {v : List V} {r : List Rs} {fp : List Addr}, OwnS K m Hs H v r fp → (∀ a ∈ fp, ∀ o, H a = some o → H' a = some o) → OwnS K m Hs' H' v r fp
  | _, _, _, .nil, _ => .nil
  | _, _, _, .cons h t, f => .cons (own_mono e h fun a m => f a (by simp [m])) (ownS_mono e t fun a m => f a (by simp [m]))
end
theorem ownL_mono (e : Same Hs Hs') : ∀ {L : List VR} {fp : List Addr}, OwnL K m Hs H L fp → (∀ a ∈ fp, ∀ o, H a = some o → H' a = some o) → OwnL K m Hs' H' L fp
  | _, _, .nil, _ => .nil
  | _, _, .cons h t, f => .cons (own_mono e h fun a m => f a (by simp [m])) (ownL_mono e t fun a m => f a (by simp [m]))
/-- read as it stands -/
theorem own_rd {v : V} {r : Rs} {fp : List Addr} (h : Own K m Hs H v r fp) : Own K .rdo Hs H v r fp :=
  own_map (P := fun _ => True) (m' := .rdo) (H' := H) (.refl _) (fun _ _ _ _ h => (dctAt_rd h : Rd H _ _)) (fun _ _ _ e _ => e) h fun _ _ => trivial
theorem own_mono' (e : Same Hs Hs') (a : Same H H') {v : V} {r : Rs} {fp : List Addr} (h : Own K m Hs H v r fp) : Own K m Hs' H' v r fp := own_mono e h fun b _ u z => a b u z
mutual
theorem own_there : ∀ {v : V} {r : Rs} {fp : List Addr}, Own K m Hs H v r fp → ∀ a ∈ fp, ∃ o, H a = some o
  | _, _, _, .un, a, m => by simp at m
  | _, _, _, .scr h, a, m => by simp at m
  | _, _, _, .da d, a, m => by simp at m
  | _, _, _, .lst h t, a, m => by simp at m; subst m; exact ⟨_, h⟩
  | _, _, _, .dct h nk t, a, m => by
    rcases List.mem_cons.mp m with rfl | m
    · exact dctAt_some h
    · exact ownK_there t a m
  | _, _, _, .dtt h k t, a, m => by simp at m; subst m; exact ⟨_, h⟩
  | _, _, _, .ins h t, a, m => by
    rcases List.mem_cons.mp m with rfl | m
    · exact ⟨_, h⟩
    · exact ownF_there t a m
  | _, _, _, .tup h t, a, m => by
    rcases List.mem_cons.mp m with rfl | m
    · exact ⟨_, h⟩
    · exact ownS_there t a m
  | _, _, _, .lsr h t, a, m => by
    rcases List.mem_cons.mp m with rfl | m
    · exact ⟨_, h⟩
    · exact ownS_there t a m
theorem ownK_there : ∀ {v : List (Key × V)} {r : List (Key × Rs)} {fp : List Addr}, OwnK K m Hs H v r fp → ∀ a ∈ fp, ∃ o, H a = some o
  | _, _, _, .nil, a, m => by simp at m
  | _, _, _, .cons h t, a, m => by
    rcases List.mem_append.mp m with m | m
    · exact own_there h a m
    · exact ownK_there t a m
theorem ownF_there : ∀ {v : List (Str × V)} {r : List (Str × Rs)} {fp : List Addr}, OwnF K m Hs H v r fp → ∀ a ∈ fp, ∃ o, H a = some o
  | _, _, _, .nil, a, m => by simp at m
  | _, _, _, .cons h t, a, m => by
    rcases List.mem_append.mp m with m | m
    · exact own_there h a m
    · exact ownF_there t a m
theorem ownS_there : ∀ {v : List V} {r : List Rs} {fp : List Addr}, OwnS K m Hs H v r fp → ∀ a ∈ fp, ∃ o, H a = some o
  | _, _, _, .nil, a, m => by simp at m
  | _, _, _, .cons h t, a, m => by
    rcases List.mem_append.mp m with m | m
    · exact own_there h a m
    · exact ownS_there t a m
end
theorem ownL_there : ∀ {L : List VR} {fp : List Addr}, OwnL K m Hs H L fp → ∀ a ∈ fp, ∃ o, H a = some o
  | _, _, .nil, a, m => by simp at m
  | _, _, .cons h t, a, m => by
    rcases List.mem_append.mp m with m | m
    · exact own_there h a m
    · exact ownL_there t a m
theorem dctAt_inj {m : Mo} {H : Hp} {n : Nat} {a : Addr} {kv kv' : List (Key × V)} (h : DctAt m H n a kv) (h' : DctAt m H n a kv') : kv = kv' := by
  have p := dctAt_rd h
  have q := dctAt_rd h'
  rcases p with p | ⟨o, p⟩ <;> rcases q with q | ⟨o', q⟩ <;> rw [p] at q <;> cases q <;> rfl
mutual
theorem own_fp : ∀ {v : V} {r : Rs} {fp fq : List Addr}, Own K m Hs H v r fp → Own K m Hs H v r fq → fp = fq
  | _, _, _, _, .un, h => by cases h; rfl
  | _, _, _, _, .scr _, h => by cases h; rfl
  | _, _, _, _, .da _, h => by cases h; rfl
  | _, _, _, _, .lst _ _, h => by cases h; rfl
  | _, _, _, _, .dct h1 nk t, h => by
    cases h with
    | dct h2 nk2 t2 => have := dctAt_inj h1 h2; subst this; rw [ownK_fp t t2]
  | _, _, _, _, .dtt _ _ _, h => by cases h; rfl
  | _, _, _, _, .ins h1 t, h => by
    cases h with
    | ins h2 t2 => rw [h1] at h2; cases h2; rw [ownF_fp t t2]
  | _, _, _, _, .tup h1 t, h => by
    cases h with
    | tup h2 t2 => rw [h1] at h2; cases h2; rw [ownS_fp t t2]
  | _, _, _, _, .lsr h1 t, h => by
    cases h with
    | lsr h2 t2 => rw [h1] at h2; cases h2; rw [ownS_fp t t2]
theorem ownK_fp : ∀ {v : List (Key × V)} {r : List (Key × Rs)} {fp fq : List Addr}, OwnK K m Hs H v r fp → OwnK K m Hs H v r fq → fp = fq
  | _, _, _, _, .nil, h => by cases h; rfl
  | _, _, _, _, .cons h1 t, h => by
    cases h with
    | cons h2 t2 => rw [own_fp h1 h2, ownK_fp t t2]
theorem ownF_fp : ∀ {v : List (Str × V)} {r : List (Str × Rs)} {fp fq : List Addr}, OwnF K m Hs H v r fp → OwnF K m Hs H v r fq → fp = fq
  | _, _, _, _, .nil, h => by cases h; rfl
  | _, _, _, _, .cons h1 t, h => by
    cases h with
    | cons h2 t2 => rw [own_fp h1 h2, ownF_fp t t2]
theorem ownS_fp : ∀ {v : List V} {r : List Rs} {fp fq : List Addr}, OwnS K m Hs H v r fp → OwnS K m Hs H v r fq → fp = fq
  | _, _, _, _, .nil, h => by cases h; rfl
  | _, _, _, _, .cons h1 t, h => by
    cases h with
    | cons h2 t2 => rw [own_fp h1 h2, ownS_fp t t2]
end
theorem ownL_fp : ∀ {L : List VR} {fp fq : List Addr}, OwnL K m Hs H L fp → OwnL K m Hs H L fq → ∀ a, a ∈ fp ↔ a ∈ fq
  | _, _, _, .nil, h, a => by cases h; rfl
  | _, _, _, .cons h1 t, h, a => by
    cases h with
    | cons h2 t2 => rw [own_fp h1 h2, List.mem_append, List.mem_append, ownL_fp t t2 a]
theorem ownL_app : ∀ {L M : List VR} {fp fq : List Addr}, OwnL K m Hs H L fp → OwnL K m Hs H M fq → OwnL K m Hs H (L ++ M) (fp ++ fq)
  | [], M, _, fq, .nil, h => h
  | _ :: L, M, _, fq, .cons o t, h => by
    rw [List.cons_append, List.append_assoc]
    exact .cons o (ownL_app t h)
theorem ownL_perm {L L' : List VR} (p : L.Perm L') : ∀ {fp : List Addr}, OwnL K m Hs H L fp → ∃ fp', OwnL K m Hs H L' fp' ∧ fp.Perm fp' := by
  induction p with
  | nil => intro fp h; exact ⟨fp, h, .refl _⟩
  | cons x _ ih =>
    intro fp h
    cases h with
    | cons h t =>
      obtain ⟨fp', q, r⟩ := ih t
      exact ⟨_, .cons h q, r.append_left _⟩
  | swap x y l =>
    intro fp h
    cases h with
    | cons h t =>
      cases t with
      | cons h' t =>
        refine ⟨_, .cons h' (.cons h t), ?_⟩
        rw [← List.append_assoc, ← List.append_assoc]
        exact List.perm_append_comm.append_right _
  | trans _ _ ih1 ih2 =>
    intro fp h
    obtain ⟨f1, q1, r1⟩ := ih1 h
    obtain ⟨f2, q2, r2⟩ := ih2 q1
    exact ⟨f2, q2, r1.trans r2⟩
theorem same_upd {p : Addr} {o : HO} (np : H p = none) : Same H (upd H p o) := fun b u e => by
  rw [upd_ne (ne_of_none e np)]; exact e
def NoD (Hs : Hp) : Prop := ∀ a kv, Hs a ≠ some (.dK kv)
/-- only new things have come -/
structure Ext (Hs H Hs' H' : Hp) : Prop where
  data : Same Hs Hs'
  all : Same H H'
  sub : Same Hs' H'
  new : ∀ a o, Hs' a = some o → Hs a = some o ∨ (H a = none ∧ ∀ kv, o ≠ .dK kv)
theorem Ext.refl {Hs H : Hp} (s : Same Hs H) : Ext Hs H Hs H := ⟨.refl _, .refl _, s, fun _ _ e => .inl e⟩
theorem Ext.trans {Hs H Hs1 H1 Hs2 H2 : Hp} (a : Ext Hs H Hs1 H1) (b : Ext Hs1 H1 Hs2 H2) : Ext Hs H Hs2 H2 :=
  ⟨a.data.trans b.data, a.all.trans b.all, b.sub, fun c o e => (b.new c o e).elim (fun z => a.new c o z) fun z => .inr ⟨a.all.free z.1, z.2⟩⟩
theorem Ext.noD {Hs H : Hp} (e : Ext Hs H Hs' H') (n : NoD Hs) : NoD Hs' := fun a kv z => (e.new a _ z).elim (n a kv) fun q => q.2 kv rfl
/-- a new thing that is data -/
theorem Ext.grow {Hs H : Hp} {p : Addr} {o : HO} (s : Same Hs H) (np : H p = none) (hd : ∀ kv, o ≠ .dK kv) : Ext Hs H (upd Hs p o) (upd H p o) :=
  ⟨same_upd (s.free np), same_upd np, fun b u e => by
    by_cases hb : b = p
    · subst hb; rw [upd_same] at e ⊢; exact e
    · rw [upd_ne hb] at e ⊢; exact s b u e, fun b u e => by
    by_cases hb : b = p
    · subst hb; rw [upd_same] at e; cases e; exact .inr ⟨np, hd⟩
    · rw [upd_ne hb] at e; exact .inl e⟩
/-- a new thing that is none -/
theorem Ext.more {Hs H : Hp} {p : Addr} {o : HO} (s : Same Hs H) (np : H p = none) : Ext Hs H Hs (upd H p o) :=
  ⟨.refl _, same_upd np, s.trans (same_upd np), fun b u e => .inl e⟩

/-- what a def's run must leave as it was: Hs0, H0 at its entry, W the addresses that it may write; vs0 its arguments; tk, lk: the locks of its loops, on things of its own and on others' -/
structure Gh where
  Hs0 : Hp
  H0 : Hp
  W : Addr → Prop
  vs0 : Nat → Option V
  tk : List Lk
  lk : List (Addr × Obj)
structure St9 (K : PySem.W.Frag) (g : Gh) (Hs H : Hp) (L : List VR) : Prop where
  sub : Same Hs H
  nod : NoD Hs
  own : ∃ fp, OwnL K (.own []) Hs H L fp ∧ fp.Nodup ∧ ∀ a ∈ fp, Hs a = none ∧ (g.H0 a = none ∨ g.W a)
  data : Same g.Hs0 Hs
  new : ∀ a o, Hs a = some o → g.Hs0 a = some o ∨ g.H0 a = none ∨ g.W a
  keep : ∀ a o, g.H0 a = some o → ¬ g.W a → a ∉ g.lk.map (·.1) → H a = some o
  keepL : ∀ p ∈ g.lk, ∃ kv, g.H0 p.1 = some (.dK kv) ∧ ¬ g.W p.1 ∧ H p.1 = some (.frz p.2 (.dK kv))
variable {g : Gh}
theorem St9.there {L : List VR} (h : St9 K g Hs H L) {a : Addr} {o : HO} (e : g.H0 a = some o) (w : ¬ g.W a) : ∃ u, H a = some u := by
  by_cases hl : a ∈ g.lk.map (·.1)
  · obtain ⟨p, hp, rfl⟩ := List.mem_map.mp hl
    obtain ⟨kv, _, _, z⟩ := h.keepL p hp
    exact ⟨_, z⟩
  · exact ⟨_, h.keep a o e w hl⟩
theorem St9.free {L : List VR} (h : St9 K g Hs H L) {a : Addr} (n : H a = none) : g.H0 a = none ∨ g.W a := by
  by_cases w : g.W a
  · exact .inr w
  · cases e : g.H0 a with
    | none => exact .inl rfl
    | some o => obtain ⟨u, z⟩ := h.there e w; rw [z] at n; cases n
theorem st_perm {L L' : List VR} (p : L.Perm L') (h : St9 K g Hs H L) : St9 K g Hs H L' := by
  obtain ⟨fp, o, n, f⟩ := h.own
  obtain ⟨fp', o', p'⟩ := ownL_perm p o
  exact { h with own := ⟨fp', o', p'.nodup n, fun a m => f a (p'.mem_iff.mpr m)⟩ }
theorem st_tail {x : VR} {L : List VR} (h : St9 K g Hs H (x :: L)) : St9 K g Hs H L := by
  obtain ⟨fp, o, n, f⟩ := h.own
  cases o with
  | cons _ t => exact { h with own := ⟨_, t, (List.nodup_append.mp n).2.1, fun a m => f a (by simp [m])⟩ }
theorem st_drop {L M : List VR} (h : St9 K g Hs H (L ++ M)) : St9 K g Hs H M := by
  induction L with
  | nil => exact h
  | cons x L ih => exact ih (st_tail h)
theorem st_dp {L : List VR} {v : V} {d : PyData} (h : St9 K g Hs H ((v, .da d) :: L)) : Dp K Hs v d := by
  obtain ⟨fp, o, n, f⟩ := h.own
  cases o with
  | cons h t => cases h with | da q => exact q
theorem st_own {L : List VR} {v : V} {r : Rs} (h : St9 K g Hs H ((v, r) :: L)) : ∃ fp, Own K (.own []) Hs H v r fp ∧ fp.Nodup ∧ ∀ a ∈ fp, Hs a = none := by
  obtain ⟨fp, o, n, f⟩ := h.own
  cases o with
  | cons h t => exact ⟨_, h, (List.nodup_append.mp n).1, fun a m => (f a (by simp [m])).1⟩
theorem st_ext {L : List VR} (e : Ext Hs H Hs' H') (h : St9 K g Hs H L) : St9 K g Hs' H' L := by
  obtain ⟨fp, o, n, f⟩ := h.own
  refine ⟨e.sub, e.noD h.nod, ⟨fp, ownL_mono e.data o fun a _ u z => e.all a u z, n, fun a m => ⟨?_, (f a m).2⟩⟩, h.data.trans e.data, fun a u z => ?_, fun a u z w l => e.all a u (h.keep a u z w l), fun p hp => ?_⟩
  · cases q : Hs' a with
    | none => rfl
    | some u =>
      rcases e.new a u q with z | z
      · rw [(f a m).1] at z; cases z
      · obtain ⟨u', z'⟩ := ownL_there o a m
        rw [z.1] at z'; cases z'
  · rcases e.new a u z with q | q
    · exact h.new a u q
    · exact .inr (h.free q.1)
  · obtain ⟨kv, a, b, c⟩ := h.keepL p hp
    exact ⟨kv, a, b, e.all _ _ c⟩
/-- a new thing joins -/
theorem st_new {L : List VR} {v : V} {x : Rs} {fp : List Addr} (e : Ext Hs H Hs' H') (h : St9 K g Hs H L) (q : Own K (.own []) Hs' H' v x fp) (n : fp.Nodup) (f : ∀ a ∈ fp, H a = none ∧ Hs' a = none) : St9 K g Hs' H' ((v, x) :: L) := by
  have h' := st_ext e h
  obtain ⟨fp0, o, n0, f0⟩ := h.own
  have o' := ownL_mono e.data o fun a _ u z => e.all a u z
  refine { h' with own := ⟨fp ++ fp0, .cons q o', ?_, fun a m => ?_⟩ }
  · refine List.nodup_append.mpr ⟨n, n0, fun a m b m' z => ?_⟩
    subst z
    obtain ⟨u, z⟩ := ownL_there o a m'
    rw [(f a m).1] at z; cases z
  · rcases List.mem_append.mp m with m | m
    · exact ⟨(f a m).2, h.free (f a m).1⟩
    · refine ⟨?_, (f0 a m).2⟩
      cases q : Hs' a with
      | none => rfl
      | some u =>
        rcases e.new a u q with z | z
        · rw [(f0 a m).1] at z; cases z
        · obtain ⟨u', z'⟩ := ownL_there o a m
          rw [z.1] at z'; cases z'
theorem st_data {L : List VR} {v : V} {d : PyData} (h : St9 K g Hs H L) (q : Dp K Hs v d) : St9 K g Hs H ((v, .da d) :: L) :=
  st_new (.refl h.sub) h (.da q) (by simp) (by simp)
theorem st_un {L : List VR} {v : V} (h : St9 K g Hs H L) : St9 K g Hs H ((v, .un) :: L) :=
  st_new (.refl h.sub) h .un (by simp) (by simp)
/-- a thing is changed in place: its own footprint turns from fp0 to fp1; ex: others join out of it -/
theorem st_turn {L M : List VR} {v v' : V} {r r' : Rs} {fp0 fp1 fpL : List Addr} (h : St9 K g Hs H []) (o0 : Own K (.own []) Hs H v r fp0) (oL : OwnL K (.own []) Hs H L fpL) (n : (fp0 ++ fpL).Nodup) (f : ∀ a ∈ fp0 ++ fpL, Hs a = none ∧ (g.H0 a = none ∨ g.W a))
    (k : ∀ a, a ∉ fp0 → ∀ o, H a = some o → H' a = some o) (o1 : OwnL K (.own []) Hs H' M fp1) (h1 : ∀ a ∈ fp1, a ∈ fp0 ∨ H a = none) (n1 : fp1.Nodup) : St9 K g Hs H' (M ++ L) := by
  obtain ⟨n0, nL, d⟩ := List.nodup_append.mp n
  have dis : ∀ a ∈ fpL, a ∉ fp0 := fun a m m' => d a m' a m rfl
  have nf : ∀ a o, g.H0 a = some o → ¬ g.W a → a ∉ fp0 := fun a o z w m => by
    rcases (f a (by simp [m])).2 with q | q
    · rw [z] at q; cases q
    · exact w q
  refine ⟨fun b u e => k b (fun m => ?_) u (h.sub b u e), h.nod, ⟨fp1 ++ fpL, ownL_app o1 (ownL_mono (.refl _) oL fun a m u e => k a (dis a m) u e), ?_, fun a m => ?_⟩, h.data, h.new, fun a o z w l => k a (nf a o z w) o (h.keep a o z w l), fun p hp => ?_⟩
  · rw [(f b (by simp [m])).1] at e; cases e
  · refine List.nodup_append.mpr ⟨n1, nL, fun a m b m' e => ?_⟩
    subst e
    rcases h1 a m with q | q
    · exact dis a m' q
    · obtain ⟨u, z⟩ := ownL_there oL a m'
      rw [q] at z; cases z
  · rcases List.mem_append.mp m with m | m
    · rcases h1 a m with q | q
      · exact f a (by simp [q])
      · exact ⟨h.sub.free q, h.free q⟩
    · exact f a (by simp [m])
  · obtain ⟨kv, a, b, c⟩ := h.keepL p hp
    exact ⟨kv, a, b, k _ (nf _ _ a b) _ c⟩
theorem st_nil {L : List VR} (h : St9 K g Hs H L) : St9 K g Hs H [] := { h with own := ⟨[], .nil, by simp, by simp⟩ }
end
end Cg

/-! Ways into trees; slots. -/
namespace Cg
open PySem L2
def putR (f : Str) (x : Rs) : List (Str × Rs) → List (Str × Rs)
  | [] => [(f, x)]
  | (g, y) :: r => if g = f then (g, x) :: r else (g, y) :: putR f x r
def valR (k : Key) : List (Key × Rs) → Option Rs
  | [] => none
  | (k', y) :: r => if k' = k then some y else valR k r
/-- the entry k is y, in its place or behind all -/
def setR (k : Key) (x : Rs) : List (Key × Rs) → List (Key × Rs)
  | [] => [(k, x)]
  | (k', y) :: r => if k' = k then (k', x) :: r else (k', y) :: setR k x r
section
variable {K : PySem.W.Frag} {m : Mo} {Hs H : Hp}
theorem perm_mid {a b c : List Addr} : (a ++ (b ++ c)).Perm (b ++ (a ++ c)) := by
  rw [← List.append_assoc, ← List.append_assoc]
  exact List.perm_append_comm.append_right _
theorem lookup_ne {α : Type} {f g : Str} {x : α} {r : List (Str × α)} (h : ¬ g = f) : List.lookup f ((g, x) :: r) = r.lookup f := by
  rw [List.lookup_cons]
  have : (f == g) = false := by simpa using fun e => h e.symm
  rw [this]
theorem lookup_eq {α : Type} {f : Str} {x : α} {r : List (Str × α)} : List.lookup f ((f, x) :: r) = some x := by
  rw [List.lookup_cons]
  simp
theorem ownF_foc {f : Str} {x : Rs} : ∀ {fv : List (Str × V)} {fs : List (Str × Rs)} {fp : List Addr}, OwnF K m Hs H fv fs fp → fs.lookup f = some x →
    ∃ u fpx fpc, fv.lookup f = some u ∧ Own K m Hs H u x fpx ∧ fp.Perm (fpx ++ fpc) ∧ ∀ (Hs' H' : Hp) (u' : V) (x' : Rs) (fpx' : List Addr), Same Hs Hs' → (∀ a ∈ fpc, ∀ o, H a = some o → H' a = some o) → Own K m Hs' H' u' x' fpx' →
      ∃ fp', OwnF K m Hs' H' (putF f u' fv) (putR f x' fs) fp' ∧ fp'.Perm (fpx' ++ fpc)
  | _, _, _, .nil, e => by cases e
  | _, _, _, .cons (k := k) (v := v) (r := r) (fp := fp) (fps := fps) (t := t) (u := us) h ht, e => by
    by_cases hk : k = f
    · subst hk
      rw [lookup_eq] at e
      cases e
      refine ⟨v, fp, fps, lookup_eq, h, .refl _, fun Hs' H' u' x' fpx' s k o => ⟨fpx' ++ fps, ?_, .refl _⟩⟩
      rw [putF, putR, if_pos rfl, if_pos rfl]
      exact .cons o (ownF_mono s ht k)
    · rw [lookup_ne hk] at e
      obtain ⟨u, fpx, fpc, h1, h2, h3, h4⟩ := ownF_foc ht e
      refine ⟨u, fpx, fp ++ fpc, by rw [lookup_ne hk]; exact h1, h2, (h3.append_left fp).trans perm_mid, fun Hs' H' u' x' fpx' s kk o => ?_⟩
      obtain ⟨fp', q1, q2⟩ := h4 Hs' H' u' x' fpx' s (fun a m => kk a (by simp [m])) o
      refine ⟨fp ++ fp', ?_, (q2.append_left fp).trans perm_mid⟩
      rw [putF, putR, if_neg hk, if_neg hk]
      exact .cons (own_mono s h fun a m => kk a (by simp [m])) q1
theorem ownF_add {f : Str} {u' : V} {x' : Rs} {fpx' : List Addr} : ∀ {fv : List (Str × V)} {fs : List (Str × Rs)} {fp : List Addr}, OwnF K m Hs H fv fs fp → fs.lookup f = none → Own K m Hs H u' x' fpx' →
    fv.lookup f = none ∧ ∃ fp', OwnF K m Hs H (putF f u' fv) (putR f x' fs) fp' ∧ fp'.Perm (fpx' ++ fp)
  | _, _, _, .nil, _, o => ⟨rfl, fpx' ++ [], .cons o .nil, .refl _⟩
  | _, _, _, .cons (k := k) (v := v) (r := r) (fp := fp) (fps := fps) (t := t) (u := us) h ht, e, o => by
    by_cases hk : k = f
    · subst hk; rw [lookup_eq] at e; cases e
    · rw [lookup_ne hk] at e
      obtain ⟨h1, fp', q1, q2⟩ := ownF_add ht e o
      refine ⟨by rw [lookup_ne hk]; exact h1, fp ++ fp', ?_, (q2.append_left fp).trans perm_mid⟩
      rw [putF, putR, if_neg hk, if_neg hk]
      exact .cons h q1
theorem ownF_len : ∀ {fv : List (Str × V)} {fs : List (Str × Rs)} {fp : List Addr}, OwnF K m Hs H fv fs fp → fv.length = fs.length
  | _, _, _, .nil => rfl
  | _, _, _, .cons h t => by simp [ownF_len t]
theorem ownF_none {f : Str} : ∀ {fv : List (Str × V)} {fs : List (Str × Rs)} {fp : List Addr}, OwnF K m Hs H fv fs fp → fs.lookup f = none → fv.lookup f = none
  | _, _, _, .nil, e => by simp
  | _, _, _, .cons (k := k) h t, e => by
    rw [List.lookup_cons] at e ⊢
    cases z : (f == k) with
    | true => rw [z] at e; simp at e
    | false => rw [z] at e; simpa using ownF_none t (by simpa using e)
theorem putF_same {f : Str} {u : V} : ∀ {fv : List (Str × V)}, fv.lookup f = some u → putF f u fv = fv
  | [], e => by cases e
  | (g, y) :: r, e => by
    by_cases hk : g = f
    · subst hk; rw [lookup_eq] at e; cases e; rw [putF, if_pos rfl]
    · rw [lookup_ne hk] at e; rw [putF, if_neg hk, putF_same e]
theorem ownK_foc {k : Key} {x : Rs} : ∀ {kv : List (Key × V)} {ks : List (Key × Rs)} {fp : List Addr}, OwnK K m Hs H kv ks fp → valR k ks = some x →
    ∃ u fpx fpc, valV kv k = some u ∧ Own K m Hs H u x fpx ∧ fp.Perm (fpx ++ fpc) ∧ ∀ (Hs' H' : Hp) (x' : Rs) (fpx' : List Addr), Same Hs Hs' → (∀ a ∈ fpc, ∀ o, H a = some o → H' a = some o) → Own K m Hs' H' u x' fpx' →
      ∃ fp', OwnK K m Hs' H' kv (setR k x' ks) fp' ∧ fp'.Perm (fpx' ++ fpc)
  | _, _, _, .nil, e => by cases e
  | _, _, _, .cons (k := k') (v := v) (r := r) (fp := fp) (fps := fps) (t := t) (u := us) h ht, e => by
    by_cases hk : k' = k
    · rw [valR, if_pos hk] at e
      cases e
      refine ⟨v, fp, fps, valV_pos hk, h, .refl _, fun Hs' H' x' fpx' s kk o => ⟨fpx' ++ fps, ?_, .refl _⟩⟩
      rw [setR, if_pos hk]
      exact .cons o (ownK_mono s ht kk)
    · rw [valR, if_neg hk] at e
      obtain ⟨u, fpx, fpc, h1, h2, h3, h4⟩ := ownK_foc ht e
      refine ⟨u, fpx, fp ++ fpc, by rw [valV_neg hk]; exact h1, h2, (h3.append_left fp).trans perm_mid, fun Hs' H' x' fpx' s kk o => ?_⟩
      obtain ⟨fp', q1, q2⟩ := h4 Hs' H' x' fpx' s (fun a m => kk a (by simp [m])) o
      refine ⟨fp ++ fp', ?_, (q2.append_left fp).trans perm_mid⟩
      rw [setR, if_neg hk]
      exact .cons (own_mono s h fun a m => kk a (by simp [m])) q1
theorem ownK_none {k : Key} : ∀ {kv : List (Key × V)} {ks : List (Key × Rs)} {fp : List Addr}, OwnK K m Hs H kv ks fp → valR k ks = none → valV kv k = none
  | _, _, _, .nil, e => rfl
  | _, _, _, .cons (k := k') h ht, e => by
    by_cases hk : k' = k
    · rw [valR, if_pos hk] at e; cases e
    · rw [valR, if_neg hk] at e
      rw [valV_neg hk]; exact ownK_none ht e
theorem ownK_len : ∀ {kv : List (Key × V)} {ks : List (Key × Rs)} {fp : List Addr}, OwnK K m Hs H kv ks fp → kv.length = ks.length
  | _, _, _, .nil => rfl
  | _, _, _, .cons h t => by simp [ownK_len t]
theorem ownK_keys : ∀ {kv : List (Key × V)} {ks : List (Key × Rs)} {fp : List Addr}, OwnK K m Hs H kv ks fp → kv.map (·.1) = ks.map (·.1)
  | _, _, _, .nil => rfl
  | _, _, _, .cons h t => by simp [ownK_keys t]
theorem ownS_foc {x : Rs} : ∀ {j : Nat} {xs : List V} {rs : List Rs} {fp : List Addr}, OwnS K m Hs H xs rs fp → rs[j]? = some x →
    ∃ u fpx fpc, xs[j]? = some u ∧ Own K m Hs H u x fpx ∧ fp.Perm (fpx ++ fpc) ∧ ∀ (Hs' H' : Hp) (u' : V) (x' : Rs) (fpx' : List Addr), Same Hs Hs' → (∀ a ∈ fpc, ∀ o, H a = some o → H' a = some o) → Own K m Hs' H' u' x' fpx' →
      ∃ fp', OwnS K m Hs' H' (xs.set j u') (rs.set j x') fp' ∧ fp'.Perm (fpx' ++ fpc)
  | _, _, _, _, .nil, e => by simp at e
  | 0, _, _, _, .cons (v := v) (r := r) (fp := fp) (fps := fps) h ht, e => by
    simp at e; subst e
    exact ⟨v, fp, fps, rfl, h, .refl _, fun Hs' H' u' x' fpx' s kk o => ⟨fpx' ++ fps, .cons o (ownS_mono s ht kk), .refl _⟩⟩
  | j + 1, _, _, _, .cons (v := v) (r := r) (fp := fp) (fps := fps) h ht, e => by
    obtain ⟨u, fpx, fpc, h1, h2, h3, h4⟩ := ownS_foc (j := j) ht (by simpa using e)
    refine ⟨u, fpx, fp ++ fpc, by simpa using h1, h2, (h3.append_left fp).trans perm_mid, fun Hs' H' u' x' fpx' s kk o => ?_⟩
    obtain ⟨fp', q1, q2⟩ := h4 Hs' H' u' x' fpx' s (fun a m => kk a (by simp [m])) o
    exact ⟨fp ++ fp', .cons (own_mono s h fun a m => kk a (by simp [m])) q1, (q2.append_left fp).trans perm_mid⟩
theorem ownS_len : ∀ {xs : List V} {rs : List Rs} {fp : List Addr}, OwnS K m Hs H xs rs fp → xs.length = rs.length
  | _, _, _, .nil => rfl
  | _, _, _, .cons h t => by simp [ownS_len t]
theorem set_same {α : Type} {xs : List α} {j : Nat} {u : α} (h : xs[j]? = some u) : xs.set j u = xs := by
  apply List.ext_getElem?
  intro i
  by_cases hi : j = i
  · subst hi
    rw [List.getElem?_set_self (List.getElem?_eq_some_iff.mp h).1, h]
  · rw [List.getElem?_set_ne hi]
/-! ### ways -/
inductive Pe where
  | f (n : Str) | k (k : Key) | i (j : Nat)
  deriving DecidableEq
def getP : Rs → List Pe → Option Rs
  | r, [] => some r
  | .ins _ fs, .f n :: π => match fs.lookup n with
    | some x => getP x π
    | none => none
  | .dct _ ks, .k k :: π => match valR k ks with
    | some x => getP x π
    | none => none
  | .lsr rs, .i j :: π => match rs[j]? with
    | some x => getP x π
    | none => none
  | _, _ :: _ => none
def setP : Rs → List Pe → Rs → Rs
  | _, [], y => y
  | .ins c fs, .f n :: π, y => match fs.lookup n with
    | some x => .ins c (putR n (setP x π y) fs)
    | none => .ins c fs
  | .dct l ks, .k k :: π, y => match valR k ks with
    | some x => .dct l (setR k (setP x π y) ks)
    | none => .dct l ks
  | .lsr rs, .i j :: π, y => match rs[j]? with
    | some x => .lsr (rs.set j (setP x π y))
    | none => .lsr rs
  | r, _ :: _, _ => r
inductive Way (H : Hp) : V → List Pe → V → Prop
  | nil {v : V} : Way H v [] v
  | f {a C dx : Addr} {fv : List (Str × V)} {n : Str} {u w : V} {π : List Pe} : H a = some (.ins C dx fv) → fv.lookup n = some u → Way H u π w → Way H (.ref a) (.f n :: π) w
  | k {a : Addr} {kv : List (Key × V)} {k : Key} {u w : V} {π : List Pe} : Rd H a (.dK kv) → valV kv k = some u → Way H u π w → Way H (.ref a) (.k k :: π) w
  | i {a : Addr} {xs : List V} {j : Nat} {u w : V} {π : List Pe} : H a = some (.lst xs) → xs[j]? = some u → Way H u π w → Way H (.ref a) (.i j :: π) w
theorem Rd.inj {H : Hp} {a : Addr} {x y : List (Key × V)} (h : Rd H a (.dK x)) (h' : Rd H a (.dK y)) : x = y := by
  rcases h with h | ⟨o, h⟩ <;> rcases h' with h' | ⟨o', h'⟩ <;> rw [h] at h' <;> cases h' <;> rfl
theorem way_inj {v u w : V} {π : List Pe} (a : Way H v π u) : Way H v π w → u = w := by
  induction a with
  | nil => intro b; cases b; rfl
  | f h l _ ih =>
    intro b
    cases b with
    | f h' l' b' =>
      rw [h] at h'; cases h'
      rw [l] at l'; cases l'
      exact ih b'
  | k h l _ ih =>
    intro b
    cases b with
    | k h' l' b' =>
      have := Rd.inj h h'
      subst this
      rw [l] at l'; cases l'
      exact ih b'
  | i h l _ ih =>
    intro b
    cases b with
    | i h' l' b' =>
      rw [h] at h'; cases h'
      rw [l] at l'; cases l'
      exact ih b'
theorem Rd.mono {H H' : Hp} {a : Addr} {u : HO} (s : ∀ o, H a = some o → H' a = some o) (h : Rd H a u) : Rd H' a u := by
  rcases h with h | ⟨o, h⟩
  · exact .inl (s _ h)
  · exact .inr ⟨o, s _ h⟩
theorem way_mono {H' : Hp} {v u : V} {π : List Pe} (s : Same H H') (a : Way H v π u) : Way H' v π u := by
  induction a with
  | nil => exact .nil
  | f h l _ ih => exact .f (s _ _ h) l ih
  | k h l _ ih => exact .k (Rd.mono (s _) h) l ih
  | i h l _ ih => exact .i (s _ _ h) l ih
theorem own_way {x : Rs} : ∀ {π : List Pe} {v : V} {r : Rs} {fp : List Addr}, Own K m Hs H v r fp → getP r π = some x →
    ∃ u fpx fpc, Way H v π u ∧ Own K m Hs H u x fpx ∧ fp.Perm (fpx ++ fpc) ∧ ∀ (Hs' H' : Hp) (x' : Rs) (fpx' : List Addr), Same Hs Hs' → (∀ a ∈ fpc, ∀ o, H a = some o → H' a = some o) → Own K m Hs' H' u x' fpx' →
      Way H' v π u ∧ ∃ fp', Own K m Hs' H' v (setP r π x') fp' ∧ fp'.Perm (fpx' ++ fpc)
  | [], v, r, fp, o, e => by
    rw [getP] at e
    cases e
    exact ⟨v, fp, [], .nil, o, by simp, fun Hs' H' x' fpx' _ _ o' => ⟨.nil, fpx', by rw [setP]; exact o', by simp⟩⟩
  | .f n :: π, v, r, fp, o, e => by
    cases o with
    | ins ha ht =>
      rename_i a dx C fv fs fp
      rw [getP] at e
      cases q : fs.lookup n with
      | none => rw [q] at e; cases e
      | some y =>
        rw [q] at e
        obtain ⟨u, fpy, fpc, h1, h2, h3, h4⟩ := ownF_foc ht q
        obtain ⟨w, fpx, fpd, g1, g2, g3, g4⟩ := own_way h2 e
        refine ⟨w, fpx, a :: (fpd ++ fpc), .f ha h1 g1, g2, ?_, fun Hs' H' x' fpx' s kk o' => ?_⟩
        · refine ((h3.trans (g3.append_right fpc)).cons a).trans ?_
          rw [List.append_assoc]
          exact List.perm_middle.symm
        · obtain ⟨w1, fp1, q1, q2⟩ := g4 Hs' H' x' fpx' s (fun b m => kk b (by simp [m])) o'
          obtain ⟨fp2, p1, p2⟩ := h4 Hs' H' u _ fp1 s (fun b m => kk b (by simp [m])) q1
          rw [putF_same h1] at p1
          have ha' := kk a (by simp) _ ha
          refine ⟨.f ha' h1 w1, a :: fp2, ?_, ?_⟩
          · have : setP (.ins C fs) (.f n :: π) x' = .ins C (putR n (setP y π x') fs) := by rw [setP, q]
            rw [this]
            exact .ins ha' p1
          · refine ((p2.trans (q2.append_right fpc)).cons a).trans ?_
            rw [List.append_assoc]
            exact List.perm_middle.symm
    | _ => simp [getP] at e
  | .k k :: π, v, r, fp, o, e => by
    cases o with
    | dct ha nk ht =>
      rename_i a l kv ks fp
      rw [getP] at e
      cases q : valR k ks with
      | none => rw [q] at e; cases e
      | some y =>
        rw [q] at e
        obtain ⟨u, fpy, fpc, h1, h2, h3, h4⟩ := ownK_foc ht q
        obtain ⟨w, fpx, fpd, g1, g2, g3, g4⟩ := own_way h2 e
        refine ⟨w, fpx, a :: (fpd ++ fpc), .k (dctAt_rd ha) h1 g1, g2, ?_, fun Hs' H' x' fpx' s kk o' => ?_⟩
        · refine ((h3.trans (g3.append_right fpc)).cons a).trans ?_
          rw [List.append_assoc]
          exact List.perm_middle.symm
        · obtain ⟨w1, fp1, q1, q2⟩ := g4 Hs' H' x' fpx' s (fun b m => kk b (by simp [m])) o'
          obtain ⟨fp2, p1, p2⟩ := h4 Hs' H' _ fp1 s (fun b m => kk b (by simp [m])) q1
          have ha' := dctAt_keep (kk a (by simp)) ha
          refine ⟨.k (dctAt_rd ha') h1 w1, a :: fp2, ?_, ?_⟩
          · have : setP (.dct l ks) (.k k :: π) x' = .dct l (setR k (setP y π x') ks) := by rw [setP, q]
            rw [this]
            exact .dct ha' nk p1
          · refine ((p2.trans (q2.append_right fpc)).cons a).trans ?_
            rw [List.append_assoc]
            exact List.perm_middle.symm
    | _ => simp [getP] at e
  | .i j :: π, v, r, fp, o, e => by
    cases o with
    | lsr ha ht =>
      rename_i a xs rs fp
      rw [getP] at e
      cases q : rs[j]? with
      | none => rw [q] at e; cases e
      | some y =>
        rw [q] at e
        obtain ⟨u, fpy, fpc, h1, h2, h3, h4⟩ := ownS_foc ht q
        obtain ⟨w, fpx, fpd, g1, g2, g3, g4⟩ := own_way h2 e
        refine ⟨w, fpx, a :: (fpd ++ fpc), .i ha h1 g1, g2, ?_, fun Hs' H' x' fpx' s kk o' => ?_⟩
        · refine ((h3.trans (g3.append_right fpc)).cons a).trans ?_
          rw [List.append_assoc]
          exact List.perm_middle.symm
        · obtain ⟨w1, fp1, q1, q2⟩ := g4 Hs' H' x' fpx' s (fun b m => kk b (by simp [m])) o'
          obtain ⟨fp2, p1, p2⟩ := h4 Hs' H' u _ fp1 s (fun b m => kk b (by simp [m])) q1
          rw [set_same h1] at p1
          have ha' := kk a (by simp) _ ha
          refine ⟨.i ha' h1 w1, a :: fp2, ?_, ?_⟩
          · have : setP (.lsr rs) (.i j :: π) x' = .lsr (rs.set j (setP y π x')) := by rw [setP, q]
            rw [this]
            exact .lsr ha' p1
          · refine ((p2.trans (q2.append_right fpc)).cons a).trans ?_
            rw [List.append_assoc]
            exact List.perm_middle.symm
    | _ => simp [getP] at e
end
end Cg

/-! Slots and the state of a body. -/
namespace Cg
open PySem L2
/-- slots: nothing known; a thing of one's own (or data); a thing that is only read; another name of a part of slot i -/
inductive Sv where
  | un | ow (r : Rs) | bo (r : Rs) | al (i : Nat) (π : List Pe)
abbrev En := List Sv
def trOf (ρ : En) (j : Nat) : Option Rs := match ρ[j]? with
  | some (.ow r) => some r
  | some (.bo r) => some r
  | some (.al i π) => (match ρ[i]? with
    | some (.ow r) => getP r π
    | _ => none)
  | _ => none
inductive Sl : St → En → List VR → Prop
  | nil : Sl [] [] []
  | un {s : Option V} {σ : St} {ρ : En} {L : List VR} : Sl σ ρ L → Sl (s :: σ) (.un :: ρ) L
  | bo {s : Option V} {r : Rs} {σ : St} {ρ : En} {L : List VR} : Sl σ ρ L → Sl (s :: σ) (.bo r :: ρ) L
  | al {s : Option V} {i : Nat} {π : List Pe} {σ : St} {ρ : En} {L : List VR} : Sl σ ρ L → Sl (s :: σ) (.al i π :: ρ) L
  | ow {v : V} {r : Rs} {σ : St} {ρ : En} {L : List VR} : Sl σ ρ L → Sl (some v :: σ) (.ow r :: ρ) ((v, r) :: L)
theorem sl_len : ∀ {σ : St} {ρ : En} {L : List VR}, Sl σ ρ L → σ.length = ρ.length
  | _, _, _, .nil => rfl
  | _, _, _, .un h => by simp [sl_len h]
  | _, _, _, .bo h => by simp [sl_len h]
  | _, _, _, .al h => by simp [sl_len h]
  | _, _, _, .ow h => by simp [sl_len h]
theorem sl_get : ∀ {σ : St} {ρ : En} {L : List VR} {i : Nat} {r : Rs}, Sl σ ρ L → ρ[i]? = some (.ow r) →
    ∃ v L1 L2, σ[i]? = some (some v) ∧ L = L1 ++ (v, r) :: L2 ∧ (∀ r', Sl σ (ρ.set i (.ow r')) (L1 ++ (v, r') :: L2)) ∧ Sl σ (ρ.set i .un) (L1 ++ L2)
  | _, _, _, _, _, .nil, e => by simp at e
  | _, _, _, 0, _, .un _, e => by simp at e
  | _, _, _, 0, _, .bo _, e => by simp at e
  | _, _, _, 0, _, .al _, e => by simp at e
  | _, _, _, i + 1, r, .un h, e => by
    obtain ⟨v, L1, L2, a, b, c, d⟩ := sl_get (i := i) h (by simpa using e)
    exact ⟨v, L1, L2, by simpa using a, b, fun r' => .un (c r'), .un d⟩
  | _, _, _, i + 1, r, .bo h, e => by
    obtain ⟨v, L1, L2, a, b, c, d⟩ := sl_get (i := i) h (by simpa using e)
    exact ⟨v, L1, L2, by simpa using a, b, fun r' => .bo (c r'), .bo d⟩
  | _, _, _, i + 1, r, .al h, e => by
    obtain ⟨v, L1, L2, a, b, c, d⟩ := sl_get (i := i) h (by simpa using e)
    exact ⟨v, L1, L2, by simpa using a, b, fun r' => .al (c r'), .al d⟩
  | _, _, _, 0, r, .ow h, e => by
    simp at e; subst e
    exact ⟨_, [], _, rfl, rfl, fun r' => .ow h, .un h⟩
  | _, _, _, i + 1, r, .ow h, e => by
    obtain ⟨v, L1, L2, a, b, c, d⟩ := sl_get (i := i) h (by simpa using e)
    subst b
    exact ⟨v, _ :: L1, L2, by simpa using a, rfl, fun r' => .ow (c r'), .ow d⟩
/-- a slot is put: what it held is let go -/
theorem sl_set {v : V} {r : Rs} : ∀ {σ : St} {ρ : En} {L : List VR} (i : Nat), Sl σ ρ L → i < ρ.length →
    ∃ L' L0 Lx, Sl (σ.set i (some v)) (ρ.set i (.ow r)) L' ∧ L.Perm (Lx ++ L0) ∧ L'.Perm ((v, r) :: L0)
  | _, _, _, _, .nil, e => by simp at e
  | _, _, _, 0, .un h, _ => ⟨_, _, [], .ow h, .refl _, .refl _⟩
  | _, _, _, 0, .bo h, _ => ⟨_, _, [], .ow h, .refl _, .refl _⟩
  | _, _, _, 0, .al h, _ => ⟨_, _, [], .ow h, .refl _, .refl _⟩
  | _, _, _, 0, .ow h, _ => ⟨_, _, [_], .ow h, .refl _, .refl _⟩
  | _, _, _, i + 1, .un h, e => by
    obtain ⟨L', L0, Lx, a, b, c⟩ := sl_set i h (by simpa using e)
    exact ⟨L', L0, Lx, .un a, b, c⟩
  | _, _, _, i + 1, .bo h, e => by
    obtain ⟨L', L0, Lx, a, b, c⟩ := sl_set i h (by simpa using e)
    exact ⟨L', L0, Lx, .bo a, b, c⟩
  | _, _, _, i + 1, .al h, e => by
    obtain ⟨L', L0, Lx, a, b, c⟩ := sl_set i h (by simpa using e)
    exact ⟨L', L0, Lx, .al a, b, c⟩
  | _, _, _, i + 1, .ow h, e => by
    obtain ⟨L', L0, Lx, a, b, c⟩ := sl_set i h (by simpa using e)
    exact ⟨_, (_, _) :: L0, Lx, .ow a, (b.cons _).trans (List.perm_middle.symm), (c.cons _).trans (.swap _ _ _)⟩
/-- .. by something that holds nothing -/
def nul : Sv → Prop
  | .ow _ => False
  | _ => True
theorem sl_setN {s : Option V} {z : Sv} (hz : nul z) : ∀ {σ : St} {ρ : En} {L : List VR} (i : Nat), Sl σ ρ L → i < ρ.length →
    ∃ L0 Lx, Sl (σ.set i s) (ρ.set i z) L0 ∧ L.Perm (Lx ++ L0)
  | _, _, _, _, .nil, e => by simp at e
  | _, _, _, 0, h, _ => by
    have q : ∀ {σ : St} {ρ : En} {L : List VR}, Sl σ ρ L → Sl (s :: σ) (z :: ρ) L := fun h => by
      cases z with
      | un => exact .un h
      | bo => exact .bo h
      | al => exact .al h
      | ow => exact hz.elim
    cases h with
    | un h => exact ⟨_, [], q h, .refl _⟩
    | bo h => exact ⟨_, [], q h, .refl _⟩
    | al h => exact ⟨_, [], q h, .refl _⟩
    | ow h => exact ⟨_, [_], q h, .refl _⟩
    | nil => simp at *
  | _, _, _, i + 1, .un h, e => by
    obtain ⟨L0, Lx, a, b⟩ := sl_setN hz i h (by simpa using e)
    exact ⟨L0, Lx, .un a, b⟩
  | _, _, _, i + 1, .bo h, e => by
    obtain ⟨L0, Lx, a, b⟩ := sl_setN hz i h (by simpa using e)
    exact ⟨L0, Lx, .bo a, b⟩
  | _, _, _, i + 1, .al h, e => by
    obtain ⟨L0, Lx, a, b⟩ := sl_setN hz i h (by simpa using e)
    exact ⟨L0, Lx, .al a, b⟩
  | _, _, _, i + 1, .ow h, e => by
    obtain ⟨L0, Lx, a, b⟩ := sl_setN hz i h (by simpa using e)
    exact ⟨(_, _) :: L0, Lx, .ow a, (b.cons _).trans (List.perm_middle.symm)⟩
theorem sl_dropAl {f : Sv → Sv} (hf : ∀ s, f s = s ∨ (f s = .un ∧ ∃ i π, s = .al i π)) : ∀ {σ : St} {ρ : En} {L : List VR}, Sl σ ρ L → Sl σ (ρ.map f) L
  | _, _, _, .nil => .nil
  | _, _, _, .un h => by
    rw [List.map_cons]
    rcases hf .un with e | ⟨e, _, _, z⟩
    · rw [e]; exact .un (sl_dropAl hf h)
    · cases z
  | _, _, _, .bo (r := r) h => by
    rw [List.map_cons]
    rcases hf (.bo r) with e | ⟨e, _, _, z⟩
    · rw [e]; exact .bo (sl_dropAl hf h)
    · cases z
  | _, _, _, .al (i := i) (π := π) h => by
    rw [List.map_cons]
    rcases hf (.al i π) with e | ⟨e, _⟩
    · rw [e]; exact .al (sl_dropAl hf h)
    · rw [e]; exact .un (sl_dropAl hf h)
  | _, _, _, .ow (r := r) h => by
    rw [List.map_cons]
    rcases hf (.ow r) with e | ⟨e, _, _, z⟩
    · rw [e]; exact .ow (sl_dropAl hf h)
    · cases z

structure EnvAt (K : PySem.W.Frag) (mk : List Bool) (g : Gh) (Hs H : Hp) (T : List VR) (σ : St) (ρ : En) : Prop where
  st : ∃ L, Sl σ ρ L ∧ St9 K g Hs H (L ++ T)
  pk : ∀ (i : Nat) (v : V), mk[i]? = some true → g.vs0 i = some v → σ[i]? = some (some v)
  bor : ∀ (i : Nat) (r : Rs), ρ[i]? = some (.bo r) → ∃ v fp, σ[i]? = some (some v) ∧ Own K .rdo g.Hs0 g.H0 v r fp ∧ ∀ a ∈ fp, ¬ g.W a
  als : ∀ (j i : Nat) (π : List Pe), ρ[j]? = some (.al i π) → ∃ v u, σ[i]? = some (some v) ∧ Way H v π u ∧ σ[j]? = some (some u)
/-- what may be read; av: what is kept clear of -/
structure EnvQ (K : PySem.W.Frag) (Hs H : Hp) (av : Addr → Prop) (σ : St) (ρ : En) : Prop where
  sub : Same Hs H
  nod : NoD Hs
  avo : ∀ a, av a → ∃ o, H a = some o
  sl : ∀ (i : Nat) (r : Rs), trOf ρ i = some r → ∃ v fp, σ[i]? = some (some v) ∧ Own K .rdo Hs H v r fp ∧ ∀ a ∈ fp, ¬ av a
  als : ∀ (j i : Nat) (π : List Pe), ρ[j]? = some (.al i π) → ∃ v u, σ[i]? = some (some v) ∧ Way H v π u ∧ σ[j]? = some (some u)

section
variable {K : PySem.W.Frag} {mk : List Bool} {g : Gh} {Hs Hs' H H' : Hp} {T T' : List VR} {σ : St} {ρ : En} {v : V} {d : PyData} {x : Rs} {av : Addr → Prop}
theorem st_front {L fr : List VR} {x : VR} (h : St9 K g Hs H (L ++ x :: fr)) : St9 K g Hs H (x :: (L ++ fr)) := st_perm List.perm_middle h
theorem st_back {L fr : List VR} {x : VR} (h : St9 K g Hs H (x :: (L ++ fr))) : St9 K g Hs H (L ++ x :: fr) := st_perm List.perm_middle.symm h
theorem env_sub (e : EnvAt K mk g Hs H T σ ρ) : Same Hs H := let ⟨_, _, h⟩ := e.st; h.sub
/-- a thing that is only read is still there -/
theorem bo_now {L : List VR} {v : V} {r : Rs} {fp : List Addr} (h : St9 K g Hs H L) (o : Own K .rdo g.Hs0 g.H0 v r fp) (w : ∀ a ∈ fp, ¬ g.W a) : Own K .rdo Hs H v r fp := by
  refine own_map (P := fun a => ¬ g.W a) (m := .rdo) (m' := .rdo) (H := g.H0) (H' := H) h.data (fun n a kv pa q => ?_) (fun a u pa e nd => ?_) o w
  · by_cases hl : a ∈ g.lk.map (·.1)
    · obtain ⟨p, hp, rfl⟩ := List.mem_map.mp hl
      obtain ⟨kv', e1, _, e2⟩ := h.keepL p hp
      have : kv' = kv := Rd.inj (H := g.H0) (.inl e1) q
      subst this
      exact .inr ⟨_, e2⟩
    · exact Rd.mono (fun u e => h.keep a u e pa hl) q
  · by_cases hl : a ∈ g.lk.map (·.1)
    · obtain ⟨p, hp, rfl⟩ := List.mem_map.mp hl
      obtain ⟨kv', e1, _, e2⟩ := h.keepL p hp
      rw [e] at e1; cases e1
      exact (nd _ rfl).elim
    · exact h.keep a u e pa hl
theorem env_q (e : EnvAt K mk g Hs H T σ ρ) : EnvQ K Hs H (fun _ => False) σ ρ := by
  obtain ⟨L, sl, h8⟩ := e.st
  refine ⟨env_sub e, h8.nod, fun _ z => z.elim, fun i r h => ?_, e.als⟩
  have ow : ∀ (i : Nat) (r : Rs), ρ[i]? = some (.ow r) → ∃ v fp, σ[i]? = some (some v) ∧ Own K .rdo Hs H v r fp := fun i r h1 => by
    obtain ⟨v, L1, L2, a, b, _⟩ := sl_get sl h1
    subst b
    obtain ⟨fp, o, _⟩ := st_own (v := v) (r := r) (L := L1 ++ L2 ++ T) (st_perm (by simp [List.append_assoc, List.perm_middle]) h8)
    exact ⟨v, fp, a, own_rd o⟩
  unfold trOf at h
  cases q : ρ[i]? with
  | none => rw [q] at h; cases h
  | some s =>
    rw [q] at h
    cases s with
    | un => cases h
    | ow r' =>
      cases h
      obtain ⟨v, fp, a, o⟩ := ow i r q
      exact ⟨v, fp, a, o, fun _ _ z => z⟩
    | bo r' =>
      cases h
      obtain ⟨v, fp, a, o, w⟩ := e.bor i _ q
      exact ⟨v, fp, a, bo_now h8 o w, fun _ _ z => z⟩
    | al j π =>
      obtain ⟨v, u, a, w, b⟩ := e.als i j π q
      cases q2 : ρ[j]? with
      | none => simp only [q2] at h; cases h
      | some s2 =>
        simp only [q2] at h
        cases s2 with
        | ow r2 =>
          obtain ⟨v2, fp, a2, o2⟩ := ow j r2 q2
          rw [a] at a2; cases a2
          obtain ⟨u2, fpx, _, w2, ox, _⟩ := own_way o2 h
          have := way_inj w w2
          subst this
          exact ⟨u, fpx, b, ox, fun _ _ z => z⟩
        | _ => cases h
theorem envQ_ext (e : Ext Hs H Hs' H') (q : EnvQ K Hs H av σ ρ) : EnvQ K Hs' H' av σ ρ :=
  ⟨e.sub, e.noD q.nod, fun a h => let ⟨o, z⟩ := q.avo a h; ⟨o, e.all _ _ z⟩, fun i r h => let ⟨v, fp, a, o, n⟩ := q.sl i r h; ⟨v, fp, a, own_mono' e.data e.all o, n⟩, fun j i π h => let ⟨v, u, a, w, b⟩ := q.als j i π h; ⟨v, u, a, way_mono e.all w, b⟩⟩
theorem env_map (e : EnvAt K mk g Hs H T σ ρ) (s : Same H H') (f : ∀ L, St9 K g Hs H (L ++ T) → St9 K g Hs' H' (L ++ T')) : EnvAt K mk g Hs' H' T' σ ρ :=
  ⟨let ⟨L, a, b⟩ := e.st; ⟨L, a, f L b⟩, e.pk, e.bor, fun j i π h => let ⟨v, u, a, w, b⟩ := e.als j i π h; ⟨v, u, a, way_mono s w, b⟩⟩
theorem env_ext (e : Ext Hs H Hs' H') (q : EnvAt K mk g Hs H T σ ρ) : EnvAt K mk g Hs' H' T σ ρ := env_map q e.all fun _ h => st_ext e h
theorem env_new {fp : List Addr} (e : Ext Hs H Hs' H') (q : EnvAt K mk g Hs H T σ ρ) (o : Own K (.own []) Hs' H' v x fp) (n : fp.Nodup) (f : ∀ a ∈ fp, H a = none ∧ Hs' a = none) : EnvAt K mk g Hs' H' ((v, x) :: T) σ ρ :=
  env_map q e.all fun _ h => st_back (st_new e h o n f)
theorem env_pop {x : VR} (e : EnvAt K mk g Hs H (x :: T) σ ρ) : EnvAt K mk g Hs H T σ ρ := env_map e (.refl _) fun L h => st_tail (st_front h)
theorem env_dp (e : EnvAt K mk g Hs H ((v, .da d) :: T) σ ρ) : Dp K Hs v d := let ⟨_, _, h⟩ := e.st; st_dp (st_front h)
theorem env_push (e : EnvAt K mk g Hs H T σ ρ) (q : Dp K Hs v d) : EnvAt K mk g Hs H ((v, .da d) :: T) σ ρ := env_map e (.refl _) fun L h => st_back (st_data h q)
theorem env_perm (p : T.Perm T') (e : EnvAt K mk g Hs H T σ ρ) : EnvAt K mk g Hs H T' σ ρ := env_map e (.refl _) fun L h => st_perm (p.append_left L) h
theorem envQ_tree {i : Nat} {r : Rs} (e : EnvQ K Hs H av σ ρ) (h : trOf ρ i = some r) : ∃ v fp, σ[i]? = some (some v) ∧ Own K .rdo Hs H v r fp ∧ ∀ a ∈ fp, ¬ av a := e.sl i r h
/-! ### other names that are let go -/
def keepAl (ρ : En) : Sv → Sv
  | .al i π => match ρ[i]? with
    | some (.ow r) => if (getP r π).isSome then .al i π else .un
    | _ => .un
  | s => s
/-- other names that stand for nothing any more are let go -/
def clA (ρ : En) : En := ρ.map (keepAl ρ)
theorem keepAl_al (ρ : En) (i : Nat) (π : List Pe) : keepAl ρ (.al i π) = match ρ[i]? with
    | some (.ow r) => if (getP r π).isSome then .al i π else .un
    | _ => .un := rfl
theorem keepAl_or (ρ : En) (s : Sv) : keepAl ρ s = s ∨ (keepAl ρ s = .un ∧ ∃ i π, s = .al i π) := by
  cases s with
  | al i π =>
    rw [keepAl_al]
    split
    · split
      · exact .inl rfl
      · exact .inr ⟨rfl, _, _, rfl⟩
    · exact .inr ⟨rfl, _, _, rfl⟩
  | _ => exact .inl rfl
theorem clA_get {ρ : En} {i : Nat} : (clA ρ)[i]? = (ρ[i]?).map (keepAl ρ) := by unfold clA; rw [List.getElem?_map]
theorem clA_len {ρ : En} : (clA ρ).length = ρ.length := by unfold clA; rw [List.length_map]
theorem clA_bo {ρ : En} {i : Nat} {r : Rs} (h : (clA ρ)[i]? = some (.bo r)) : ρ[i]? = some (.bo r) := by
  rw [clA_get] at h
  cases q : ρ[i]? with
  | none => rw [q] at h; cases h
  | some s =>
    rw [q] at h
    rcases keepAl_or ρ s with e | ⟨e, _⟩
    · simp only [Option.map_some, e] at h; exact h
    · simp only [Option.map_some, e] at h; cases h
theorem clA_al {ρ : En} {j i : Nat} {π : List Pe} (h : (clA ρ)[j]? = some (.al i π)) : ρ[j]? = some (.al i π) ∧ ∃ r x, ρ[i]? = some (.ow r) ∧ getP r π = some x := by
  rw [clA_get] at h
  cases q : ρ[j]? with
  | none => rw [q] at h; cases h
  | some s =>
    rw [q] at h
    simp only [Option.map_some, Option.some.injEq] at h
    cases s with
    | al i' π' =>
      rw [keepAl_al] at h
      split at h
      · rename_i r q2
        split at h
        · rename_i q3
          cases h
          obtain ⟨x, q4⟩ := Option.isSome_iff_exists.mp q3
          exact ⟨rfl, r, x, q2, q4⟩
        · cases h
      · cases h
    | un => cases h
    | ow _ => cases h
    | bo _ => cases h
theorem env_cl (e : EnvAt K mk g Hs H T σ ρ) : EnvAt K mk g Hs H T σ (clA ρ) :=
  ⟨let ⟨L, a, b⟩ := e.st; ⟨L, sl_dropAl (keepAl_or ρ) a, b⟩, e.pk, fun i r h => e.bor i r (clA_bo h), fun j i π h => e.als j i π (clA_al h).1⟩
/-- the heap has changed outside of the slots' things -/
theorem env_heap (e : EnvAt K mk g Hs H T σ (clA ρ)) (f : ∀ L, St9 K g Hs H (L ++ T) → St9 K g Hs' H' (L ++ T') ∧ ∀ fp, OwnL K (.own []) Hs H L fp → Same Hs Hs' ∧ (fp.Nodup → (∀ b ∈ fp, Hs b = none ∧ (g.H0 b = none ∨ g.W b)) → ∀ a ∈ fp, ∀ o, H a = some o → H' a = some o)) : EnvAt K mk g Hs' H' T' σ (clA ρ) := by
  obtain ⟨⟨L, sl, h⟩, pk, bor, als⟩ := e
  obtain ⟨h', k⟩ := f L h
  refine ⟨⟨L, sl, h'⟩, pk, bor, fun j i π hj => ?_⟩
  obtain ⟨v, u, a, w, b⟩ := als j i π hj
  obtain ⟨_, r, x, q1, q2⟩ := clA_al hj
  have q1' : (clA ρ)[i]? = some (.ow r) := by rw [clA_get, q1]; rfl
  obtain ⟨v', L1, L2, a', rfl, _⟩ := sl_get sl q1'
  rw [a] at a'; cases a'
  obtain ⟨fp, ow, n, ff⟩ := h.own
  have hp : ((L1 ++ (v, r) :: L2) ++ T).Perm ((L1 ++ (v, r) :: L2) ++ T) := .refl _
  have oL : ∃ fpL fpT, OwnL K (.own []) Hs H (L1 ++ (v, r) :: L2) fpL ∧ fp = fpL ++ fpT := by
    have : ∀ {L M : List VR} {fp : List Addr}, OwnL K (.own []) Hs H (L ++ M) fp → ∃ f1 f2, OwnL K (.own []) Hs H L f1 ∧ OwnL K (.own []) Hs H M f2 ∧ fp = f1 ++ f2 := by
      intro L
      induction L with
      | nil => intro M fp h; exact ⟨[], fp, .nil, h, rfl⟩
      | cons x L ih =>
        intro M fp h
        cases h with
        | cons o t =>
          obtain ⟨f1, f2, a, b, rfl⟩ := ih t
          exact ⟨_, f2, .cons o a, b, by rw [List.append_assoc]⟩
    obtain ⟨f1, f2, a, b, c⟩ := this ow
    exact ⟨f1, f2, a, c⟩
  obtain ⟨fpL, fpT, oL, rfl⟩ := oL
  obtain ⟨sH, kk⟩ := k fpL oL
  have kk := kk (List.nodup_append.mp n).1 fun b m => ff b (by simp [m])
  obtain ⟨fpL', oL', pL⟩ := ownL_perm (List.perm_middle (a := (v, r)) (l₁ := L1) (l₂ := L2)) oL
  cases oL' with
  | cons o t =>
    obtain ⟨u2, fpx, fpc, w2, ox, pm, close⟩ := own_way o q2
    have := way_inj w w2
    subst this
    refine ⟨v, u, a, (close Hs' H' .un [] sH (fun c m => kk c (pL.mem_iff.mpr ?_)) .un).1, b⟩
    simp [pm.mem_iff, m]
/-- a part is taken out of a slot's thing -/
theorem env_take {i : Nat} {r x : Rs} {π : List Pe} (e : EnvAt K mk g Hs H T σ ρ) (hi : ρ[i]? = some (.ow r)) (hg : getP r π = some x) :
    ∃ v u, σ[i]? = some (some v) ∧ Way H v π u ∧ EnvAt K mk g Hs H ((u, x) :: T) σ (ρ.set i (.ow (setP r π .un))) := by
  obtain ⟨⟨L, sl, h⟩, pk, bor, als⟩ := e
  obtain ⟨v, L1, L2, a, rfl, c, _⟩ := sl_get sl hi
  have h1 : St9 K g Hs H ((v, r) :: (L1 ++ L2 ++ T)) := st_perm (by simp [List.append_assoc, List.perm_middle]) h
  obtain ⟨fp, ow, n, f⟩ := h1.own
  cases ow with
  | cons o t =>
    rename_i fpr fpL
    obtain ⟨u, fpx, fpc, w, ox, pm, close⟩ := own_way o hg
    obtain ⟨_, fp', o', pm'⟩ := close Hs H .un [] (.refl _) (fun _ _ _ z => z) .un
    refine ⟨v, u, a, w, ⟨⟨_, c (setP r π .un), ?_⟩, pk, fun j r' hj => ?_, fun j j' π' hj => ?_⟩⟩
    · have tot : (fpr ++ fpL).Perm (fp' ++ (fpx ++ fpL)) := by
        refine ((pm.trans (List.perm_append_comm.trans (pm'.symm.append_right fpx))).append_right fpL).trans ?_
        rw [List.append_assoc]
      have h2 : St9 K g Hs H ((v, setP r π .un) :: (u, x) :: (L1 ++ L2 ++ T)) := { h1 with own := ⟨fp' ++ (fpx ++ fpL), .cons o' (.cons ox t), tot.nodup n, fun b m => f b (tot.mem_iff.mpr m)⟩ }
      refine st_perm ?_ h2
      rw [List.append_assoc, List.append_assoc, List.cons_append]
      refine (List.Perm.cons _ ?_).trans List.perm_middle.symm
      have : (u, x) :: (L1 ++ (L2 ++ T)) = (u, x) :: ((L1 ++ L2) ++ T) := by rw [List.append_assoc]
      rw [this, ← List.append_assoc]
      exact List.perm_middle.symm
    · by_cases hij : i = j
      · subst hij
        rw [List.getElem?_set_self (List.getElem?_eq_some_iff.mp hi).1] at hj; cases hj
      · rw [List.getElem?_set_ne hij] at hj
        exact bor j r' hj
    · by_cases hij : i = j
      · subst hij
        rw [List.getElem?_set_self (List.getElem?_eq_some_iff.mp hi).1] at hj; cases hj
      · rw [List.getElem?_set_ne hij] at hj
        exact als j j' π' hj
/-- .. and put back, or another put in its place -/
theorem env_put {i : Nat} {r x : Rs} {π : List Pe} {v u : V} (e : EnvAt K mk g Hs H ((u, x) :: T) σ ρ) (hi : ρ[i]? = some (.ow r)) (hg : getP r π = some .un) (hv : σ[i]? = some (some v)) (hw : Way H v π u) :
    EnvAt K mk g Hs H T σ (ρ.set i (.ow (setP r π x))) := by
  obtain ⟨⟨L, sl, h⟩, pk, bor, als⟩ := e
  obtain ⟨v', L1, L2, a, rfl, c, _⟩ := sl_get sl hi
  rw [hv] at a; cases a
  have h1 : St9 K g Hs H ((v, r) :: (u, x) :: (L1 ++ L2 ++ T)) := by
    refine st_perm ?_ h
    rw [List.append_assoc, List.cons_append]
    refine List.perm_middle.trans (List.Perm.cons _ ?_)
    rw [← List.append_assoc]
    exact List.perm_middle
  obtain ⟨fp, ow, n, f⟩ := h1.own
  cases ow with
  | cons o t =>
    cases t with
    | cons ox t =>
      rename_i fpr fpx fpL
      obtain ⟨u', fpx0, fpc, w, ou, pm, close⟩ := own_way o hg
      have := way_inj hw w
      subst this
      cases ou
      obtain ⟨_, fp', o', pm'⟩ := close Hs H x fpx (.refl _) (fun _ _ _ z => z) ox
      refine ⟨⟨_, c (setP r π x), ?_⟩, pk, fun j r' hj => ?_, fun j j' π' hj => ?_⟩
      · have tot : (fpr ++ (fpx ++ fpL)).Perm (fp' ++ fpL) := by
          rw [← List.append_assoc]
          exact ((pm.append_right fpx).trans (List.perm_append_comm.trans pm'.symm)).append_right fpL
        have h2 : St9 K g Hs H ((v, setP r π x) :: (L1 ++ L2 ++ T)) := { h1 with own := ⟨fp' ++ fpL, .cons o' t, tot.nodup n, fun b m => f b (tot.mem_iff.mpr m)⟩ }
        refine st_perm ?_ h2
        rw [List.append_assoc, List.append_assoc, List.cons_append]
        exact List.perm_middle.symm
      · by_cases hij : i = j
        · subst hij
          rw [List.getElem?_set_self (List.getElem?_eq_some_iff.mp hi).1] at hj; cases hj
        · rw [List.getElem?_set_ne hij] at hj
          exact bor j r' hj
      · by_cases hij : i = j
        · subst hij
          rw [List.getElem?_set_self (List.getElem?_eq_some_iff.mp hi).1] at hj; cases hj
        · rw [List.getElem?_set_ne hij] at hj
          exact als j j' π' hj
theorem getP_setP {x y : Rs} : ∀ {π : List Pe} {r : Rs}, getP r π = some x → getP (setP r π y) π = some y ∧ ∀ z, setP (setP r π y) π z = setP r π z := by
  intro π
  induction π with
  | nil => intro r h; exact ⟨by rw [setP, getP], fun z => by rw [setP, setP]⟩
  | cons p π ih =>
    intro r h
    cases p with
    | f n =>
      cases r with
      | ins c fs =>
        rw [getP] at h
        cases q : fs.lookup n with
        | none => rw [q] at h; cases h
        | some w =>
          rw [q] at h
          have lk : ∀ (fs : List (Str × Rs)) (u : Rs), (∃ w, fs.lookup n = some w) → (putR n u fs).lookup n = some u ∧ ∀ u', putR n u' (putR n u fs) = putR n u' fs := by
            intro fs u
            induction fs with
            | nil => rintro ⟨_, e⟩; cases e
            | cons hd tl ih2 =>
              rintro ⟨w, e⟩
              obtain ⟨g, z⟩ := hd
              by_cases hg : g = n
              · subst hg
                refine ⟨by rw [putR, if_pos rfl, lookup_eq], fun u' => ?_⟩
                rw [putR, if_pos rfl, putR, if_pos rfl, putR, if_pos rfl]
              · rw [lookup_ne hg] at e
                obtain ⟨a1, a2⟩ := ih2 ⟨w, e⟩
                refine ⟨by rw [putR, if_neg hg, lookup_ne hg]; exact a1, fun u' => ?_⟩
                rw [putR, if_neg hg, putR, if_neg hg, putR, if_neg hg, a2]
          obtain ⟨i1, i2⟩ := ih h
          have e1 : setP (.ins c fs) (.f n :: π) y = .ins c (putR n (setP w π y) fs) := by rw [setP, q]
          obtain ⟨l1, l2⟩ := lk fs (setP w π y) ⟨w, q⟩
          refine ⟨by rw [e1, getP, l1]; exact i1, fun z => ?_⟩
          rw [e1]
          rw [setP, l1]
          show Rs.ins c (putR n (setP (setP w π y) π z) (putR n (setP w π y) fs)) = _
          rw [l2, i2, setP, q]
      | _ => cases h
    | k n =>
      cases r with
      | dct c fs =>
        rw [getP] at h
        cases q : valR n fs with
        | none => rw [q] at h; cases h
        | some w =>
          rw [q] at h
          have lk : ∀ (fs : List (Key × Rs)) (u : Rs), (∃ w, valR n fs = some w) → valR n (setR n u fs) = some u ∧ ∀ u', setR n u' (setR n u fs) = setR n u' fs := by
            intro fs u
            induction fs with
            | nil => rintro ⟨_, e⟩; cases e
            | cons hd tl ih2 =>
              rintro ⟨w, e⟩
              obtain ⟨g, z⟩ := hd
              by_cases hg : g = n
              · refine ⟨by rw [setR, if_pos hg, valR, if_pos hg], fun u' => ?_⟩
                rw [setR, if_pos hg, setR, if_pos hg, setR, if_pos hg]
              · rw [valR, if_neg hg] at e
                obtain ⟨a1, a2⟩ := ih2 ⟨w, e⟩
                refine ⟨by rw [setR, if_neg hg, valR, if_neg hg]; exact a1, fun u' => ?_⟩
                rw [setR, if_neg hg, setR, if_neg hg, setR, if_neg hg, a2]
          obtain ⟨i1, i2⟩ := ih h
          have e1 : setP (.dct c fs) (.k n :: π) y = .dct c (setR n (setP w π y) fs) := by rw [setP, q]
          obtain ⟨l1, l2⟩ := lk fs (setP w π y) ⟨w, q⟩
          refine ⟨by rw [e1, getP, l1]; exact i1, fun z => ?_⟩
          rw [e1]
          rw [setP, l1]
          show Rs.dct c (setR n (setP (setP w π y) π z) (setR n (setP w π y) fs)) = _
          rw [l2, i2, setP, q]
      | _ => cases h
    | i n =>
      cases r with
      | lsr rs =>
        rw [getP] at h
        cases q : rs[n]? with
        | none => rw [q] at h; cases h
        | some w =>
          rw [q] at h
          obtain ⟨i1, i2⟩ := ih h
          have hl := (List.getElem?_eq_some_iff.mp q).1
          have e1 : setP (.lsr rs) (.i n :: π) y = .lsr (rs.set n (setP w π y)) := by rw [setP, q]
          have l1 : (rs.set n (setP w π y))[n]? = some (setP w π y) := List.getElem?_set_self hl
          refine ⟨by rw [e1, getP, l1]; exact i1, fun z => ?_⟩
          rw [e1]
          rw [setP, l1]
          show Rs.lsr ((rs.set n (setP w π y)).set n (setP (setP w π y) π z)) = _
          rw [List.set_set, i2, setP, q]
      | _ => cases h
/-- the part at π of slot i has become x -/
def upS (ρ : En) (i : Nat) (π : List Pe) (x : Rs) : En := match ρ[i]? with
  | some (.ow r) => (clA (ρ.set i (.ow (setP r π .un)))).set i (.ow (setP r π x))
  | _ => ρ
/-- a part of a slot's thing is changed by a run that sees that part alone -/
theorem env_part {i : Nat} {r x : Rs} {π : List Pe} (e : EnvAt K mk g Hs H T σ ρ) (hi : ρ[i]? = some (.ow r)) (hg : getP r π = some x) :
    ∃ v u, σ[i]? = some (some v) ∧ Way H v π u ∧ EnvAt K mk g Hs H ((u, x) :: T) σ (clA (ρ.set i (.ow (setP r π .un)))) ∧
      ∀ (Hs' H' : Hp) (x' : Rs) (T' : List VR), Same Hs Hs' → Way H' v π u → EnvAt K mk g Hs' H' ((u, x') :: T') σ (clA (ρ.set i (.ow (setP r π .un)))) → EnvAt K mk g Hs' H' T' σ (upS ρ i π x') := by
  obtain ⟨v, u, a, w, e1⟩ := env_take e hi hg
  refine ⟨v, u, a, w, env_cl e1, fun Hs' H' x' T' s w' e2 => ?_⟩
  have hl := (List.getElem?_eq_some_iff.mp hi).1
  have h2 : (clA (ρ.set i (.ow (setP r π .un))))[i]? = some (.ow (setP r π .un)) := by
    rw [clA_get, List.getElem?_set_self hl]; rfl
  obtain ⟨g1, g2⟩ := getP_setP (y := .un) hg
  have e3 := env_put e2 h2 g1 a w'
  rw [g2] at e3
  unfold upS
  rw [hi]
  exact e3
end
end Cg

/-! Quiet expressions: nothing that stood has changed. -/
namespace Cg
open PySem L2
abbrev clsV (K : PySem.W.Frag) (c : Str) : Value := .ref (He.ga K c)
/-- fresh (or data); read; a test; several data; what is raised -/
def tV (K : PySem.W.Frag) (ρ : En) (x : Rs) : TE := fun σ H Q => ∃ Hs av, EnvQ K Hs H av σ ρ ∧ ∀ v Hs' H' fp, Ext Hs H Hs' H' → Own K (.own []) Hs' H' v x fp → fp.Nodup → (∀ a ∈ fp, H a = none ∧ Hs' a = none) → Q v H'
def tA (K : PySem.W.Frag) (ρ : En) (x : Rs) : TE := fun σ H Q => ∃ Hs av, EnvQ K Hs H av σ ρ ∧ ∀ v Hs' H' fp, Ext Hs H Hs' H' → Own K .rdo Hs' H' v x fp → (∀ a ∈ fp, ¬ av a) → Q v H'
def tQT (K : PySem.W.Frag) (ρ : En) (b : Bool) : TT := fun σ H Q => ∃ Hs av, EnvQ K Hs H av σ ρ ∧ ∀ Hs' H', Ext Hs H Hs' H' → Q b H'
def tQs (K : PySem.W.Frag) (ρ : En) (ds : List PyData) : TA := fun σ H Q => ∃ Hs av, EnvQ K Hs H av σ ρ ∧ ∀ vs Hs' H', Ext Hs H Hs' H' → DpAll K Hs' vs ds → Q vs H'
def tX (K : PySem.W.Frag) (W : WX) (ρ : En) (c : Str) : TE := fun σ H _ => ∃ Hs av, EnvQ K Hs H av σ ρ ∧ ∀ Hs' H', Ext Hs H Hs' H' → W (clsV K c) none σ H'
def QV (X : Cx) (e : Expr) (ρ : En) (x : Rs) : Prop := PE X e (tV X.K ρ x)
abbrev QD (X : Cx) (e : Expr) (ρ : En) (d : PyData) : Prop := QV X e ρ (.da d)
def QA (X : Cx) (e : Expr) (ρ : En) (x : Rs) : Prop := PE X e (tA X.K ρ x)
def QT (X : Cx) (e : Expr) (ρ : En) (b : Bool) : Prop := PT X e (tQT X.K ρ b)
def QW (X : Cx) (e : Expr) (ρ : En) (b : Bool) : Prop := PW X e (tQT X.K ρ b)
def QDs (X : Cx) (es : List Expr) (ρ : En) (ds : List PyData) : Prop := PA X es (tQs X.K ρ ds)
def QX (X : Cx) (W : WX) (e : Expr) (ρ : En) (c : Str) : Prop := PE X e (tX X.K W ρ c)

theorem pe_imp {X : Cx} {e : Expr} {t t' : TE} (h : PE X e t) (f : ∀ σ H Q, t' σ H Q → t σ H Q) : PE X e t' := ⟨fun pins s σ H Q I q => h.run pins s σ H Q I (f σ H Q q)⟩
theorem pt_imp {X : Cx} {e : Expr} {t t' : TT} (h : PT X e t) (f : ∀ σ H Q, t' σ H Q → t σ H Q) : PT X e t' := ⟨fun pins s σ H Q I q => h.run pins s σ H Q I (f σ H Q q)⟩
theorem pw_imp {X : Cx} {e : Expr} {t t' : TT} (h : PW X e t) (f : ∀ σ H Q, t' σ H Q → t σ H Q) : PW X e t' := ⟨fun w pins s σ H Q I q => h.run w pins s σ H Q I (f σ H Q q)⟩
theorem pa_imp {X : Cx} {e : List Expr} {t t' : TA} (h : PA X e t) (f : ∀ σ H Q, t' σ H Q → t σ H Q) : PA X e t' := ⟨fun p pins s σ H Q I q => h.run p pins s σ H Q I (f σ H Q q)⟩
theorem ps_imp {X : Cx} {e : Stmt} {t t' : TS} (h : PS X e t) (f : ∀ D σ H, t' D σ H → t D σ H) : PS X e t' := ⟨fun pins s σ H D I q => h.run pins s σ H D I (f D σ H q)⟩
theorem pss_imp {X : Cx} {e : List Stmt} {t t' : TS} (h : PSs X e t) (f : ∀ D σ H, t' D σ H → t D σ H) : PSs X e t' := ⟨fun pins s σ H D I q => h.run pins s σ H D I (f D σ H q)⟩
theorem pi_imp {X : Cx} {tg iter : Expr} {t t' : TI} (h : PI X tg iter t) (f : ∀ σ H Q, t' σ H Q → t σ H Q) : PI X tg iter t' := ⟨fun pins s σ H Q I q => h.run pins s σ H Q I (f σ H Q q)⟩
/-- a derivation that is there only where p holds -/
def gE (p : Prop) (t : TE) : TE := fun σ H Q => p ∧ t σ H Q
def gT (p : Prop) (t : TT) : TT := fun σ H Q => p ∧ t σ H Q
def gS (p : Prop) (t : TS) : TS := fun D σ H => p ∧ t D σ H
theorem pe_given {X : Cx} {e : Expr} {t : TE} {p : Prop} (h : p → PE X e t) : PE X e (gE p t) := ⟨fun pins s σ H Q I q => (h q.1).run pins s σ H Q I q.2⟩
theorem pw_given {X : Cx} {e : Expr} {t : TT} {p : Prop} (h : p → PW X e t) : PW X e (gT p t) := ⟨fun w pins s σ H Q I q => (h q.1).run w pins s σ H Q I q.2⟩
theorem pt_given {X : Cx} {e : Expr} {t : TT} {p : Prop} (h : p → PT X e t) : PT X e (gT p t) := ⟨fun pins s σ H Q I q => (h q.1).run pins s σ H Q I q.2⟩
theorem pss_given {X : Cx} {e : List Stmt} {t : TS} {p : Prop} (h : p → PSs X e t) : PSs X e (gS p t) := ⟨fun pins s σ H Q I q => (h q.1).run pins s σ H Q I q.2⟩

section
variable {X : Cx} {ρ : En} {e a b c : Expr} {es rest : List Expr} {x y : Rs} {d d1 d2 : PyData} {ds : List PyData} {pos : Pos} {p q : Bool}
/-- data: how a continuation of data is reached -/
theorem kdata {K : PySem.W.Frag} {Hs H : Hp} {Q : VK} {v : V} (k : ∀ v Hs' H' fp, Ext Hs H Hs' H' → Own K (.own []) Hs' H' v (.da d) fp → fp.Nodup → (∀ a ∈ fp, H a = none ∧ Hs' a = none) → Q v H') {Hs' H' : Hp} (e : Ext Hs H Hs' H') (h : Dp K Hs' v d) : Q v H' :=
  k v Hs' H' [] e (.da h) (by simp) (by simp)
theorem tq_data {K : PySem.W.Frag} {σ : St} {H : Hp} {Q : VK} {Hs : Hp} {av : Addr → Prop} (env : EnvQ K Hs H av σ ρ) (k : ∀ v Hs' H', Ext Hs H Hs' H' → Dp K Hs' v d → Q v H') : tV K ρ (.da d) σ H Q :=
  ⟨Hs, av, env, fun v Hs' H' fp e o _ _ => k v Hs' H' e (by cases o with | da o => exact o)⟩

/-! ### names, constants -/
theorem qa_var {i : Nat} {r : Rs} (h : PE X e (tVar i)) (hi : trOf ρ i = some r) : QA X e ρ r :=
  pe_imp h fun σ H Q ⟨Hs, av, env, k⟩ => by
    obtain ⟨v, fp, a, o, n⟩ := envQ_tree env hi
    exact ⟨v, a, k v Hs H fp (.refl env.sub) o n⟩
theorem qa_v (h : QV X e ρ x) : QA X e ρ x := pe_imp h fun σ H Q ⟨Hs, av, env, k⟩ => ⟨Hs, av, env, fun v Hs' H' fp e o n f => k v Hs' H' fp e (own_rd o) fun a m z => by
  obtain ⟨u, q⟩ := env.avo a z
  rw [(f a m).1] at q; cases q⟩
theorem qd_a (h : QA X e ρ (.da d)) : QD X e ρ d := pe_imp h fun σ H Q ⟨Hs, av, env, k⟩ => ⟨Hs, av, env, fun v Hs' H' fp e o _ => kdata k e (by cases o with | da o => exact o)⟩
theorem q_cst {v : V} (h : PE X e (tC v)) (hd : ∀ H, Dp X.K H v d) : QD X e ρ d :=
  pe_imp h fun σ H Q ⟨Hs, av, env, k⟩ => kdata k (.refl env.sub) (hd _)
theorem q_int {i : Int} {j} : QD X (.Constant (.int i) j pos) ρ (.int i) := q_cst pe_int fun _ => .int i
theorem q_bool {i : Bool} {j} : QD X (.Constant (.bool i) j pos) ρ (.bool i) := q_cst pe_bl fun _ => .bl i
theorem q_none {j} : QD X (.Constant .none j pos) ρ .none := q_cst pe_non fun _ => .non
theorem q_str {i : Str} {j} : QD X (.Constant (.str i) j pos) ρ (.str i) := q_cst pe_str fun _ => .str i

/-! ### two values -/
theorem qop_imp {r : R2} (h : PE X e (tOp r (tV X.K ρ (.da d1)) (tV X.K ρ (.da d2))))
    (hr : ∀ v w Hs H Q, Dp X.K Hs v d1 → Dp X.K Hs w d2 → Same Hs H → (∀ u, Dp X.K Hs u d → Q u H) → r v w H Q) : QD X e ρ d :=
  pe_imp h fun σ H Q ⟨Hs, av, env, k⟩ => tq_data env fun v Hs1 H1 e1 dv => tq_data (envQ_ext e1 env) fun w Hs2 H2 e2 dw =>
    hr v w Hs2 H2 Q (dp_mono e2.data dv) dw e2.sub fun u hu => kdata k (e1.trans e2) hu
theorem q_bin {op : Operator} {r : R2} (ho : OpR X (binaryOp op) r) (ha : QD X a ρ d1) (hb : QD X b ρ d2)
    (hr : ∀ v w Hs H Q, Dp X.K Hs v d1 → Dp X.K Hs w d2 → Same Hs H → (∀ u, Dp X.K Hs u d → Q u H) → r v w H Q) : QD X (.BinOp a op b pos) ρ d :=
  qop_imp (pe_op ho ha hb) hr
theorem q_cmp {op : CmpOp} {r : R2} (ho : OpR X (compareOp op) r) (ha : QD X a ρ d1) (hb : QD X b ρ d2) (hm : behindInMarks op b = false)
    (hr : ∀ v w Hs H Q, Dp X.K Hs v d1 → Dp X.K Hs w d2 → Same Hs H → (∀ u, Dp X.K Hs u d → Q u H) → r v w H Q) : QD X (.Compare a [op] [b] pos) ρ d :=
  qop_imp (pe_cmpR ho ha hb hm) hr
theorem qt_cmp {c : Bool} {op : CmpOp} {r : R2} (ho : OpR X (compareOp op) r) (ha : QD X a ρ d1) (hb : QD X b ρ d2) (hm : behindInMarks op b = false)
    (hr : ∀ v w Hs H Q, Dp X.K Hs v d1 → Dp X.K Hs w d2 → Same Hs H → Q (.bl c) H → r v w H Q) : QT X (.Compare a [op] [b] pos) ρ c :=
  pt_imp (pt_cmpR ho ha hb hm) fun σ H Q ⟨Hs, av, env, k⟩ => tq_data env fun v Hs1 H1 e1 dv => tq_data (envQ_ext e1 env) fun w Hs2 H2 e2 dw =>
    hr v w Hs2 H2 _ (dp_mono e2.data dv) dw e2.sub ⟨c, rfl, k Hs2 H2 (e1.trans e2)⟩
section
variable {i j : Int}
theorem q_add (ha : QD X a ρ (.int i)) (hb : QD X b ρ (.int j)) : QD X (.BinOp a .Add b pos) ρ (.int (i + j)) :=
  q_bin op_add ha hb fun v w Hs H Q h1 h2 _ k => by rw [dp_int h1, dp_int h2]; exact ⟨i, j, rfl, rfl, k _ (.int _)⟩
theorem q_sub (ha : QD X a ρ (.int i)) (hb : QD X b ρ (.int j)) : QD X (.BinOp a .Sub b pos) ρ (.int (i - j)) :=
  q_bin op_sub ha hb fun v w Hs H Q h1 h2 _ k => by rw [dp_int h1, dp_int h2]; exact ⟨i, j, rfl, rfl, k _ (.int _)⟩
theorem q_mul (ha : QD X a ρ (.int i)) (hb : QD X b ρ (.int j)) (h : CMulW i j) : QD X (.BinOp a .Mult b pos) ρ (.int (i * j)) :=
  q_bin op_mulW ha hb fun v w Hs H Q h1 h2 _ k => by rw [dp_int h1, dp_int h2]; exact ⟨i, j, rfl, rfl, h, k _ (.int _)⟩
theorem q_div (ha : QD X a ρ (.int i)) (hb : QD X b ρ (.int j)) (h : CDivW i j) : QD X (.BinOp a .FloorDiv b pos) ρ (.int (i / j)) :=
  q_bin op_fdivW ha hb fun v w Hs H Q h1 h2 _ k => by rw [dp_int h1, dp_int h2]; exact ⟨i, j, rfl, rfl, h, k _ (.int _)⟩
theorem q_mod (ha : QD X a ρ (.int i)) (hb : QD X b ρ (.int j)) (h : 0 < j) : QD X (.BinOp a .Mod b pos) ρ (.int (i % j)) :=
  q_bin op_mod ha hb fun v w Hs H Q h1 h2 _ k => by rw [dp_int h1, dp_int h2]; exact ⟨i, j, rfl, rfl, h, k _ (.int _)⟩
theorem q_pow (ha : QD X a ρ (.int i)) (hb : QD X b ρ (.int j)) (h : 0 ≤ j ∧ j ≤ 1000000 ∧ i.natAbs < 2 ^ 64) : QD X (.BinOp a .Pow b pos) ρ (.int (i ^ j.toNat)) :=
  q_bin op_pow ha hb fun v w Hs H Q h1 h2 _ k => by rw [dp_int h1, dp_int h2]; exact ⟨i, j, rfl, rfl, h, k _ (.int _)⟩
theorem qt_lt (ha : QD X a ρ (.int i)) (hb : QD X b ρ (.int j)) : QT X (.Compare a [.Lt] [b] pos) ρ (decide (i < j)) :=
  qt_cmp op_lt ha hb (nomark _) fun v w Hs H Q h1 h2 _ k => by rw [dp_int h1, dp_int h2]; exact ⟨i, j, rfl, rfl, k⟩
theorem qt_le (ha : QD X a ρ (.int i)) (hb : QD X b ρ (.int j)) : QT X (.Compare a [.LtE] [b] pos) ρ (decide (i ≤ j)) :=
  qt_cmp op_le ha hb (nomark _) fun v w Hs H Q h1 h2 _ k => by rw [dp_int h1, dp_int h2]; exact ⟨i, j, rfl, rfl, k⟩
theorem qt_gt (ha : QD X a ρ (.int i)) (hb : QD X b ρ (.int j)) : QT X (.Compare a [.Gt] [b] pos) ρ (decide (j < i)) :=
  qt_cmp op_gt ha hb (nomark _) fun v w Hs H Q h1 h2 _ k => by rw [dp_int h1, dp_int h2]; exact ⟨i, j, rfl, rfl, k⟩
theorem qt_ge (ha : QD X a ρ (.int i)) (hb : QD X b ρ (.int j)) : QT X (.Compare a [.GtE] [b] pos) ρ (decide (j ≤ i)) :=
  qt_cmp op_ge ha hb (nomark _) fun v w Hs H Q h1 h2 _ k => by rw [dp_int h1, dp_int h2]; exact ⟨i, j, rfl, rfl, k⟩
theorem qt_eqI (ha : QD X a ρ (.int i)) (hb : QD X b ρ (.int j)) : QT X (.Compare a [.Eq] [b] pos) ρ (decide (i = j)) :=
  qt_cmp op_eq ha hb (nomark _) fun v w Hs H Q h1 h2 s k => by
    rw [dp_int h1, dp_int h2]; refine ⟨rfl, ?_⟩
    have : decide (V.int i = V.int j) = decide (i = j) := by simp
    rw [this]; exact k
theorem qt_neI (ha : QD X a ρ (.int i)) (hb : QD X b ρ (.int j)) : QT X (.Compare a [.NotEq] [b] pos) ρ (!decide (i = j)) :=
  qt_cmp op_ne ha hb (nomark _) fun v w Hs H Q h1 h2 s k => by
    rw [dp_int h1, dp_int h2]; refine ⟨rfl, ?_⟩
    have : decide (V.int i = V.int j) = decide (i = j) := by simp
    rw [this]; exact k
theorem q_lt (ha : QD X a ρ (.int i)) (hb : QD X b ρ (.int j)) : QD X (.Compare a [.Lt] [b] pos) ρ (.bool (decide (i < j))) :=
  q_cmp op_lt ha hb (nomark _) fun v w Hs H Q h1 h2 _ k => by rw [dp_int h1, dp_int h2]; exact ⟨i, j, rfl, rfl, k _ (.bl _)⟩
theorem q_le (ha : QD X a ρ (.int i)) (hb : QD X b ρ (.int j)) : QD X (.Compare a [.LtE] [b] pos) ρ (.bool (decide (i ≤ j))) :=
  q_cmp op_le ha hb (nomark _) fun v w Hs H Q h1 h2 _ k => by rw [dp_int h1, dp_int h2]; exact ⟨i, j, rfl, rfl, k _ (.bl _)⟩
theorem q_gt (ha : QD X a ρ (.int i)) (hb : QD X b ρ (.int j)) : QD X (.Compare a [.Gt] [b] pos) ρ (.bool (decide (j < i))) :=
  q_cmp op_gt ha hb (nomark _) fun v w Hs H Q h1 h2 _ k => by rw [dp_int h1, dp_int h2]; exact ⟨i, j, rfl, rfl, k _ (.bl _)⟩
theorem q_ge (ha : QD X a ρ (.int i)) (hb : QD X b ρ (.int j)) : QD X (.Compare a [.GtE] [b] pos) ρ (.bool (decide (j ≤ i))) :=
  q_cmp op_ge ha hb (nomark _) fun v w Hs H Q h1 h2 _ k => by rw [dp_int h1, dp_int h2]; exact ⟨i, j, rfl, rfl, k _ (.bl _)⟩
theorem q_neg (ha : QD X a ρ (.int i)) : QD X (.UnaryOp .USub a pos) ρ (.int (-i)) :=
  pe_imp (pe_un un_neg ha) fun σ H Q ⟨Hs, av, env, k⟩ => tq_data env fun v Hs1 H1 e1 dv => by
    have q := dp_int dv
    subst q
    exact ⟨i, rfl, kdata k e1 (.int _)⟩
end
/-- == and != of data -/
theorem q_eq {k : Nat} (hr : Room k X.A) (ha : QD X a ρ d1) (hb : QD X b ρ d2) (s1 : SeqAt.shaped d1 = true) (s2 : SeqAt.shaped d2 = true) : QD X (.Compare a [.Eq] [b] pos) ρ (.bool (PyData.eqv d1 d2)) :=
  q_cmp (op_eqD hr.units) ha hb (nomark _) fun v w Hs H Q h1 h2 s k => ⟨d1, d2, dp_l2 (dp_mono s h1), dp_l2 (dp_mono s h2), s1, s2, k _ (.bl _)⟩
theorem q_ne {k : Nat} (hr : Room k X.A) (ha : QD X a ρ d1) (hb : QD X b ρ d2) (s1 : SeqAt.shaped d1 = true) (s2 : SeqAt.shaped d2 = true) : QD X (.Compare a [.NotEq] [b] pos) ρ (.bool (!PyData.eqv d1 d2)) :=
  q_cmp (op_neD hr.units) ha hb (nomark _) fun v w Hs H Q h1 h2 s k => ⟨d1, d2, dp_l2 (dp_mono s h1), dp_l2 (dp_mono s h2), s1, s2, k _ (.bl _)⟩
theorem qt_eq {k : Nat} (hr : Room k X.A) (ha : QD X a ρ d1) (hb : QD X b ρ d2) (s1 : SeqAt.shaped d1 = true) (s2 : SeqAt.shaped d2 = true) : QT X (.Compare a [.Eq] [b] pos) ρ (PyData.eqv d1 d2) :=
  qt_cmp (op_eqD hr.units) ha hb (nomark _) fun v w Hs H Q h1 h2 s k => ⟨d1, d2, dp_l2 (dp_mono s h1), dp_l2 (dp_mono s h2), s1, s2, k⟩
theorem qt_ne {k : Nat} (hr : Room k X.A) (ha : QD X a ρ d1) (hb : QD X b ρ d2) (s1 : SeqAt.shaped d1 = true) (s2 : SeqAt.shaped d2 = true) : QT X (.Compare a [.NotEq] [b] pos) ρ (!PyData.eqv d1 d2) :=
  qt_cmp (op_neD hr.units) ha hb (nomark _) fun v w Hs H Q h1 h2 s k => ⟨d1, d2, dp_l2 (dp_mono s h1), dp_l2 (dp_mono s h2), s1, s2, k⟩

/-! ### tests -/
theorem qt_val (h : QD X e ρ (.bool p)) (he : ∀ whole, isTrue e X.env whole = (do let v ← whole; standAt e.pos; holding [v] (truthy v)) := by intro _; rfl) : QT X e ρ p :=
  pt_imp (pt_val h he) fun σ H Q ⟨Hs, av, env, k⟩ => tq_data env fun v Hs1 H1 e1 dv => ⟨p, dp_bool dv, k Hs1 H1 e1⟩
theorem qt_not (h : QT X a ρ p) : QT X (.UnaryOp .Not a pos) ρ (!p) :=
  pt_imp (pt_not h) fun σ H Q ⟨Hs, av, env, k⟩ => ⟨Hs, av, env, fun Hs1 H1 e1 => k Hs1 H1 e1⟩
theorem qw_and1 (h : QT X a ρ p) : QW X (.BoolOp .And [a] pos) ρ p := pw_and1 h
theorem qw_or1 (h : QT X a ρ p) : QW X (.BoolOp .Or [a] pos) ρ p := pw_or1 h
theorem qw_and (h : QT X a ρ p) (h2 : p = true → QW X (.BoolOp .And (b :: rest) pos) ρ q) : QW X (.BoolOp .And (a :: b :: rest) pos) ρ (p && q) :=
  pw_imp (pw_and h (pw_given h2)) fun σ H Q ⟨Hs, av, env, k⟩ => by
    refine ⟨Hs, av, env, fun Hs1 H1 e1 => ?_⟩
    cases p with
    | true => exact iteT ⟨rfl, Hs1, av, envQ_ext e1 env, fun Hs2 H2 e2 => k Hs2 H2 (e1.trans e2)⟩
    | false => exact iteF (k Hs1 H1 e1)
theorem qw_or (h : QT X a ρ p) (h2 : p = false → QW X (.BoolOp .Or (b :: rest) pos) ρ q) : QW X (.BoolOp .Or (a :: b :: rest) pos) ρ (p || q) :=
  pw_imp (pw_or h (pw_given h2)) fun σ H Q ⟨Hs, av, env, k⟩ => by
    refine ⟨Hs, av, env, fun Hs1 H1 e1 => ?_⟩
    cases p with
    | false => exact iteF ⟨rfl, Hs1, av, envQ_ext e1 env, fun Hs2 H2 e2 => k Hs2 H2 (e1.trans e2)⟩
    | true => exact iteT (k Hs1 H1 e1)
theorem qt_w (h : QW X e ρ p) : QT X e ρ p := h.pt
theorem q_one {op} (h : QV X a ρ x) : QV X (.BoolOp op [a] pos) ρ x := pe_one h
theorem q_and (h : QD X a ρ (.bool p)) (h2 : p = true → QD X (.BoolOp .And (b :: rest) pos) ρ (.bool q)) : QD X (.BoolOp .And (a :: b :: rest) pos) ρ (.bool (p && q)) :=
  pe_imp (pe_and h (pe_given h2)) fun σ H Q ⟨Hs, av, env, k⟩ => tq_data env fun v Hs1 H1 e1 dv => by
    refine ⟨p, dp_bool dv, ?_⟩
    cases p with
    | true => exact iteT ⟨rfl, tq_data (envQ_ext e1 env) fun v Hs2 H2 e2 dw => kdata k (e1.trans e2) dw⟩
    | false => exact iteF (kdata k e1 (.bl _))
theorem q_or (h : QD X a ρ (.bool p)) (h2 : p = false → QD X (.BoolOp .Or (b :: rest) pos) ρ (.bool q)) : QD X (.BoolOp .Or (a :: b :: rest) pos) ρ (.bool (p || q)) :=
  pe_imp (pe_or h (pe_given h2)) fun σ H Q ⟨Hs, av, env, k⟩ => tq_data env fun v Hs1 H1 e1 dv => by
    refine ⟨p, dp_bool dv, ?_⟩
    cases p with
    | false => exact iteF ⟨rfl, tq_data (envQ_ext e1 env) fun v Hs2 H2 e2 dw => kdata k (e1.trans e2) dw⟩
    | true => exact iteT (kdata k e1 (.bl _))
theorem q_not (h : QD X a ρ (.bool p)) : QD X (.UnaryOp .Not a pos) ρ (.bool (!p)) :=
  pe_imp (pe_not h) fun σ H Q ⟨Hs, av, env, k⟩ => tq_data env fun v Hs1 H1 e1 dv => ⟨p, dp_bool dv, kdata k e1 (.bl _)⟩
theorem q_ifExp (hc : QT X c ρ p) (h1 : p = true → QV X a ρ x) (h2 : p = false → QV X b ρ x) : QV X (.IfExp c a b pos) ρ x :=
  pe_imp (pe_ifExp hc (pe_given h1) (pe_given h2)) fun σ H Q ⟨Hs, av, env, k⟩ => by
    refine ⟨Hs, av, env, fun Hs1 H1 e1 => ?_⟩
    have k2 : ∀ v Hs' H' fp, Ext Hs1 H1 Hs' H' → Own X.K (.own []) Hs' H' v x fp → fp.Nodup → (∀ a ∈ fp, H1 a = none ∧ Hs' a = none) → Q v H' := fun v Hs2 H2 fp e2 o n f => k v Hs2 H2 fp (e1.trans e2) o n fun a m => ⟨e1.all.free (f a m).1, (f a m).2⟩
    cases p with
    | true => exact iteT ⟨rfl, Hs1, av, envQ_ext e1 env, k2⟩
    | false => exact iteF ⟨rfl, Hs1, av, envQ_ext e1 env, k2⟩
def isN : PyData → Bool
  | .none => true
  | _ => false
theorem dp_non_iff {K : PySem.W.Frag} {H : Hp} {v : V} (h : Dp K H v d) : decide (v = .non) = isN d := by
  cases h <;> simp [isN]
theorem q_isN {j} {pp : Pos} (ha : QD X a ρ d) : QD X (.Compare a [.Is] [.Constant .none j pp] pos) ρ (.bool (isN d)) :=
  pe_imp (pe_cmp (pc_isN ha) rfl) fun σ H Q ⟨Hs, av, env, k⟩ => tq_data env fun v Hs1 H1 e1 dv => by
    have z := dp_non_iff dv
    simp only [z]
    exact kdata k e1 (.bl _)
theorem q_notN {j} {pp : Pos} (ha : QD X a ρ d) : QD X (.Compare a [.IsNot] [.Constant .none j pp] pos) ρ (.bool (!isN d)) :=
  pe_imp (pe_cmp (pc_notN ha) rfl) fun σ H Q ⟨Hs, av, env, k⟩ => tq_data env fun v Hs1 H1 e1 dv => by
    have z := dp_non_iff dv
    simp only [z]
    exact kdata k e1 (.bl _)
theorem qt_isN {j} {pp : Pos} (ha : QD X a ρ d) : QT X (.Compare a [.Is] [.Constant .none j pp] pos) ρ (isN d) :=
  pt_imp (pt_cmp (pc_isN ha) rfl) fun σ H Q ⟨Hs, av, env, k⟩ => tq_data env fun v Hs1 H1 e1 dv => by
    refine ⟨_, rfl, ?_⟩
    rw [dp_non_iff dv]
    exact k Hs1 H1 e1
theorem qt_notN {j} {pp : Pos} (ha : QD X a ρ d) : QT X (.Compare a [.IsNot] [.Constant .none j pp] pos) ρ (!isN d) :=
  pt_imp (pt_cmp (pc_notN ha) rfl) fun σ H Q ⟨Hs, av, env, k⟩ => tq_data env fun v Hs1 H1 e1 dv => by
    refine ⟨_, rfl, ?_⟩
    rw [dp_non_iff dv]
    exact k Hs1 H1 e1

/-! ### arguments, displays, items -/
theorem qs_nil : QDs X [] ρ [] := pa_imp pa_nil fun σ H Q ⟨Hs, av, env, k⟩ => k [] Hs H (.refl env.sub) .nil
theorem qs_cons (h1 : QD X e ρ d) (h2 : QDs X es ρ ds) (hs : starEach (e :: es) X.env = (false, eval e X.env) :: starEach es X.env := by rfl) : QDs X (e :: es) ρ (d :: ds) :=
  pa_imp (pa_cons h1 h2 hs) fun σ H Q ⟨Hs, av, env, k⟩ => tq_data env fun v Hs1 H1 e1 dv => by
    refine ⟨Hs1, av, envQ_ext e1 env, fun vs Hs2 H2 e2 dvs => ?_⟩
    exact k (v :: vs) Hs2 H2 (e1.trans e2) (.cons (dp_mono e2.data dv) dvs)
theorem q_tup {x1} (h : QDs X es ρ ds) (hz : Nat.ble ds.length 1000 = true := by rfl) : QD X (.Tuple es x1 pos) ρ (.tuple ds) :=
  pe_imp (pe_tup h) fun σ H Q ⟨Hs, av, env, k⟩ => by
    refine ⟨Hs, av, env, fun vs Hs1 H1 e1 dvs => ⟨by rw [dpAll_length dvs]; exact Nat.le_trans (Nat.le_of_ble_eq_true hz) (by decide), fun p np => ?_⟩⟩
    have e2 : Ext Hs1 H1 (upd Hs1 p (.tup vs)) (upd H1 p (.tup vs)) := Ext.grow e1.sub np (fun _ z => nomatch z)
    exact kdata k (e1.trans e2) (.tup upd_same (dpAll_mono e2.data dvs))
/-- a list that stays as it is -/
theorem q_list (h : QDs X es ρ ds) (hz : Nat.ble ds.length 1000 = true := by rfl) : QD X (.List es pos) ρ (.list ds) :=
  pe_imp (pe_lst h) fun σ H Q ⟨Hs, av, env, k⟩ => by
    refine ⟨Hs, av, env, fun vs Hs1 H1 e1 dvs => ⟨by rw [dpAll_length dvs]; exact Nat.le_trans (Nat.le_of_ble_eq_true hz) (by decide), fun p np => ?_⟩⟩
    have e2 : Ext Hs1 H1 (upd Hs1 p (.lst vs)) (upd H1 p (.lst vs)) := Ext.grow e1.sub np (fun _ z => nomatch z)
    exact kdata k (e1.trans e2) (.lst upd_same (dpAll_mono e2.data dvs))
/-- a list that will change -/
theorem q_listO (h : QDs X es ρ ds) (hz : Nat.ble ds.length 1000 = true := by rfl) : QV X (.List es pos) ρ (.lst ds) :=
  pe_imp (pe_lst h) fun σ H Q ⟨Hs, av, env, k⟩ => by
    refine ⟨Hs, av, env, fun vs Hs1 H1 e1 dvs => ⟨by rw [dpAll_length dvs]; exact Nat.le_trans (Nat.le_of_ble_eq_true hz) (by decide), fun p np => ?_⟩⟩
    have e2 : Ext Hs1 H1 Hs1 (upd H1 p (.lst vs)) := Ext.more e1.sub np
    exact k _ _ _ [p] (e1.trans e2) (.lst upd_same dvs) (by simp) fun a m => by
      have z : a = p := by simpa using m
      subst z
      exact ⟨e1.all.free np, e1.sub.free np⟩
/-- a list that was made to change is data from here on -/
theorem q_freeze (h : QV X e ρ (.lst ds)) : QD X e ρ (.list ds) :=
  pe_imp h fun σ H Q ⟨Hs, av, env, k⟩ => by
    refine ⟨Hs, av, env, fun v Hs1 H1 fp e1 o n f => ?_⟩
    cases o with
    | lst ha q =>
      rename_i a xs
      have fa := f a (by simp)
      have s2 : Same Hs1 (upd Hs1 a (.lst xs)) := same_upd fa.2
      refine kdata k (Hs' := upd Hs1 a (.lst xs)) ⟨e1.data.trans s2, e1.all, fun b u z => ?_, fun b u z => ?_⟩ (.lst upd_same (dpAll_mono s2 q))
      · by_cases hb : b = a
        · subst hb; rw [upd_same] at z; cases z; exact ha
        · rw [upd_ne hb] at z; exact e1.sub b u z
      · by_cases hb : b = a
        · subst hb; rw [upd_same] at z; cases z; exact .inr ⟨fa.1, fun _ q => nomatch q⟩
        · rw [upd_ne hb] at z; exact e1.new b u z
theorem atI_dp {K : PySem.W.Frag} {H : Hp} {xs : List V} {ds : List PyData} {i : Int} (h : DpAll K H xs ds) (e : atI ds i = some d) : ∃ v, atI xs i = some v ∧ Dp K H v d := by
  unfold atI at e ⊢
  rw [dpAll_length h]
  cases q : ixN ds.length i with
  | none => rw [q] at e; cases e
  | some j =>
    rw [q] at e
    exact dpAll_get h e
theorem q_itemT {i : Int} (ha : QD X a ρ (.tuple ds)) (hb : QD X b ρ (.int i)) (he : atI ds i = some d) (hs : PlainIx b := by exact (fun _ _ => rfl)) : QD X (.Subscript a b pos) ρ d :=
  qop_imp (pe_ix ix_tup ha hb hs) fun v w Hs H Q h1 h2 s k => by
    obtain ⟨p, xs, rfl, q, r⟩ := dp_tup h1
    obtain ⟨u, hu, du⟩ := atI_dp r he
    rw [dp_int h2]
    exact ⟨p, xs, i, u, rfl, rfl, SqT.of (s _ _ q), hu, k u du⟩
theorem q_itemL {i : Int} (ha : QD X a ρ (.list ds)) (hb : QD X b ρ (.int i)) (he : atI ds i = some d) (hs : PlainIx b := by exact (fun _ _ => rfl)) : QD X (.Subscript a b pos) ρ d :=
  qop_imp (pe_ix ix_list ha hb hs) fun v w Hs H Q h1 h2 s k => by
    obtain ⟨p, xs, rfl, q, r⟩ := dp_lst h1
    obtain ⟨u, hu, du⟩ := atI_dp r he
    rw [dp_int h2]
    exact ⟨p, xs, i, u, rfl, rfl, SqL.of (s _ _ q), hu, k u du⟩
theorem q_itemS {i : Int} {z : Str} {cd : Nat} (ha : QD X a ρ (.str z)) (hb : QD X b ρ (.int i)) (hz : z.length ≤ sizeLine) (he : atI z.cps.toList i = some cd) (hs : PlainIx b := by exact (fun _ _ => rfl)) : QD X (.Subscript a b pos) ρ (.str ⟨#[cd]⟩) :=
  qop_imp (pe_ix ix_str ha hb hs) fun v w Hs H Q h1 h2 s k => by
    rw [dp_int h2, dp_str h1]
    exact ⟨z, i, cd, rfl, rfl, hz, he, k _ (.str _)⟩

/-! ### built-ins upon data, whose answer is a scalar -/
theorem q_blt {f : Str} {id : String} {p : Pos} {r : List V → Hp → VK → Prop} (hc : CallR X (.builtin id) r) (hg : Gl X f) (hm : X.mg f = none) (hv : bootBuiltins f = some (.builtin id)) (ha : QDs X (e :: es) ρ ds)
    (hr : ∀ vs Hs H Q, DpAll X.K Hs vs ds → Same Hs H → (∀ u, Dp X.K Hs u d → Q u H) → r vs H Q)
    (hn : f ≠ "__name__" := by decide) (hdb : (f == ("__debug__" : Str)) = false := by decide) (he : starEach (e :: es) X.env = (false, eval e X.env) :: starEach es X.env := by rfl) (hpl : (backTo pos (starEach es X.env)).any (·.1) = false := by rfl) :
    QD X (.Call (.Name f p) (e :: es) [] pos) ρ d :=
  pe_imp (pe_callB hc hg hm hv ha hn hdb he hpl) fun σ H Q ⟨Hs, av, env, k⟩ => by
    refine ⟨Hs, av, env, fun vs Hs1 H1 e1 dvs => ?_⟩
    exact hr vs Hs1 H1 Q dvs e1.sub fun u hu => kdata k e1 hu
theorem dpAll_1 {K : PySem.W.Frag} {H : Hp} {vs : List V} (h : DpAll K H vs [d]) : ∃ v, vs = [v] ∧ Dp K H v d := by
  cases h with | cons a t => cases t; exact ⟨_, rfl, a⟩
theorem dpAll_2 {K : PySem.W.Frag} {H : Hp} {vs : List V} (h : DpAll K H vs [d1, d2]) : ∃ v w, vs = [v, w] ∧ Dp K H v d1 ∧ Dp K H w d2 := by
  cases h with | cons a t => cases t with | cons b t => cases t; exact ⟨_, _, rfl, a, b⟩
theorem q_abs {i : Int} {p : Pos} (hm : X.mg "abs" = none) (ha : QD X e ρ (.int i)) (hg : Gl X "abs" := by rfl) (he : starEach (e :: []) X.env = (false, eval e X.env) :: starEach [] X.env := by rfl) (hpl : (backTo pos (starEach [] X.env)).any (·.1) = false := by rfl) :
    QD X (.Call (.Name "abs" p) [e] [] pos) ρ (.int i.natAbs) :=
  q_blt call_abs hg hm (by decide +kernel) (qs_cons ha qs_nil he) (fun vs Hs H Q h s k => by
    obtain ⟨v, rfl, q⟩ := dpAll_1 h
    rw [dp_int q]
    refine ⟨i, rfl, ?_⟩
    have z : (if i < 0 then -i else i) = (i.natAbs : Int) := by split <;> omega
    rw [z]
    exact k _ (.int _)) (by decide) (by decide) he hpl
theorem q_lenL {p : Pos} (hm : X.mg "len" = none) (ha : QD X e ρ (.list ds)) (hg : Gl X "len" := by rfl) (he : starEach (e :: []) X.env = (false, eval e X.env) :: starEach [] X.env := by rfl) (hpl : (backTo pos (starEach [] X.env)).any (·.1) = false := by rfl) :
    QD X (.Call (.Name "len" p) [e] [] pos) ρ (.int ds.length) :=
  q_blt call_len_seq hg hm PySem.boot_len (qs_cons ha qs_nil he) (fun vs Hs H Q h s k => by
    obtain ⟨v, rfl, q⟩ := dpAll_1 h
    obtain ⟨a, xs, rfl, q1, q2⟩ := dp_lst q
    exact ⟨a, xs, rfl, .inl (SqL.of (s _ _ q1)), by rw [dpAll_length q2]; exact k _ (.int _)⟩) (by decide) (by decide) he hpl
theorem q_lenT {p : Pos} (hm : X.mg "len" = none) (ha : QD X e ρ (.tuple ds)) (hg : Gl X "len" := by rfl) (he : starEach (e :: []) X.env = (false, eval e X.env) :: starEach [] X.env := by rfl) (hpl : (backTo pos (starEach [] X.env)).any (·.1) = false := by rfl) :
    QD X (.Call (.Name "len" p) [e] [] pos) ρ (.int ds.length) :=
  q_blt call_len_seq hg hm PySem.boot_len (qs_cons ha qs_nil he) (fun vs Hs H Q h s k => by
    obtain ⟨v, rfl, q⟩ := dpAll_1 h
    obtain ⟨a, xs, rfl, q1, q2⟩ := dp_tup q
    exact ⟨a, xs, rfl, .inr (SqT.of (s _ _ q1)), by rw [dpAll_length q2]; exact k _ (.int _)⟩) (by decide) (by decide) he hpl
theorem q_lenS {p : Pos} {z : Str} (hm : X.mg "len" = none) (ha : QD X e ρ (.str z)) (hz : z.length ≤ sizeLine) (hg : Gl X "len" := by rfl) (he : starEach (e :: []) X.env = (false, eval e X.env) :: starEach [] X.env := by rfl) (hpl : (backTo pos (starEach [] X.env)).any (·.1) = false := by rfl) :
    QD X (.Call (.Name "len" p) [e] [] pos) ρ (.int z.length) :=
  q_blt call_len_str hg hm PySem.boot_len (qs_cons ha qs_nil he) (fun vs Hs H Q h s k => by
    obtain ⟨v, rfl, q⟩ := dpAll_1 h
    rw [dp_str q]
    exact ⟨z, rfl, hz, k _ (.int _)⟩) (by decide) (by decide) he hpl
end
end Cg

/-! Expressions as functions of the slots: values. -/
namespace Cg
open PySem L2
inductive Rz (α : Type) where
  | ok (a : α) | ex (c : Str)
abbrev FE := En → Option (Rz Rs)
abbrev FD := En → Option (Rz PyData)
def okk {α : Type} : Option (Rz α) → Option α
  | some (.ok a) => some a
  | _ => none
theorem okk_some {α : Type} {x : Option (Rz α)} {a : α} (h : okk x = some a) : x = some (.ok a) := by
  cases x with
  | none => cases h
  | some z => cases z with
    | ok b => cases h; rfl
    | ex c => cases h
def bnz {α β : Type} (x : Option (Rz α)) (f : α → Option (Rz β)) : Option (Rz β) := match x with
  | some (.ok a) => f a
  | some (.ex c) => some (.ex c)
  | none => none
theorem bnz_ok {α β : Type} {x : Option (Rz α)} {f : α → Option (Rz β)} {b : β} (h : bnz x f = some (.ok b)) : ∃ a, x = some (.ok a) ∧ f a = some (.ok b) := by
  cases x with
  | none => cases h
  | some z => cases z with
    | ok a => exact ⟨a, rfl, h⟩
    | ex c => cases h
theorem bnz_ex {α β : Type} {x : Option (Rz α)} {f : α → Option (Rz β)} {c : Str} (h : bnz x f = some (.ex c)) : x = some (.ex c) ∨ ∃ a, x = some (.ok a) ∧ f a = some (.ex c) := by
  cases x with
  | none => cases h
  | some z => cases z with
    | ok a => exact .inr ⟨a, rfl, h⟩
    | ex c => cases h; exact .inl rfl
/-- the judgements: e is read as s tells; e makes what s tells; data -/
structure SA (X : Cx) (W : WX) (e : Expr) (s : FE) : Prop where
  ok : ∀ ρ r, s ρ = some (.ok r) → QA X e ρ r
  ex : ∀ ρ c, s ρ = some (.ex c) → QX X W e ρ c
structure SV (X : Cx) (W : WX) (e : Expr) (s : FE) : Prop where
  ok : ∀ ρ r, s ρ = some (.ok r) → QV X e ρ r
  ex : ∀ ρ c, s ρ = some (.ex c) → QX X W e ρ c
structure SD (X : Cx) (W : WX) (e : Expr) (s : FD) : Prop where
  ok : ∀ ρ d, s ρ = some (.ok d) → QD X e ρ d
  ex : ∀ ρ c, s ρ = some (.ex c) → QX X W e ρ c
structure SDs (X : Cx) (W : WX) (es : List Expr) (s : En → Option (Rz (List PyData))) : Prop where
  ok : ∀ ρ ds, s ρ = some (.ok ds) → QDs X es ρ ds
  ex : ∀ ρ c, s ρ = some (.ex c) → PA X es (fun σ H _ => tX X.K W ρ c σ H fun _ _ => False)
/-- a test -/
def ST (X : Cx) (e : Expr) (s : En → Option Bool) : Prop := ∀ ρ b, s ρ = some b → QT X e ρ b
def dtA (s : FE) : FD := fun ρ => match s ρ with
  | some (.ok (.da d)) => some (.ok d)
  | some (.ex c) => some (.ex c)
  | _ => none
def dtV (s : FE) : FD := fun ρ => match s ρ with
  | some (.ok (.da d)) => some (.ok d)
  | some (.ok (.lst ds)) => some (.ok (.list ds))
  | some (.ex c) => some (.ex c)
  | _ => none
def vD (s : FD) : FE := fun ρ => match s ρ with
  | some (.ok d) => some (.ok (.da d))
  | some (.ex c) => some (.ex c)
  | none => none
section
variable {X : Cx} {W : WX} {e a b c : Expr} {es rest : List Expr} {pos : Pos} {s sa sb : FE} {sd sd' : FD}
theorem sa_v (h : SV X W e s) : SA X W e s := ⟨fun ρ r z => qa_v (h.ok ρ r z), h.ex⟩
theorem sd_a (h : SA X W e s) : SD X W e (dtA s) := by
  refine ⟨fun ρ d z => ?_, fun ρ c z => ?_⟩ <;> unfold dtA at z <;> split at z
  · cases z; exact qd_a (h.ok ρ _ (by assumption))
  · cases z
  · cases z
  · cases z
  · cases z; exact h.ex ρ _ (by assumption)
  · cases z
theorem sd_v (h : SV X W e s) : SD X W e (dtV s) := by
  refine ⟨fun ρ d z => ?_, fun ρ c z => ?_⟩ <;> unfold dtV at z <;> split at z
  · cases z; exact h.ok ρ _ (by assumption)
  · cases z; exact q_freeze (h.ok ρ _ (by assumption))
  · cases z
  · cases z
  · cases z
  · cases z
  · cases z; exact h.ex ρ _ (by assumption)
  · cases z
theorem sv_d (h : SD X W e sd) : SV X W e (vD sd) := by
  refine ⟨fun ρ d z => ?_, fun ρ c z => ?_⟩ <;> unfold vD at z <;> split at z
  · cases z; exact h.ok ρ _ (by assumption)
  · cases z
  · cases z
  · cases z
  · cases z; exact h.ex ρ _ (by assumption)
  · cases z
/-! ### names, constants -/
def varC (i : Nat) : FE := fun ρ => (trOf ρ i).map .ok
theorem sa_var {i : Nat} (h : PE X e (tVar i)) : SA X W e (varC i) := by
  refine ⟨fun ρ r z => ?_, fun ρ c z => ?_⟩ <;> unfold varC at z
  · cases q : trOf ρ i with
    | none => rw [q] at z; cases z
    | some r' => rw [q] at z; cases z; exact qa_var h q
  · cases q : trOf ρ i with
    | none => rw [q] at z; cases z
    | some r' => rw [q] at z; cases z
def cstC (d : PyData) : FD := fun _ => some (.ok d)
theorem sd_of {d : PyData} (h : ∀ ρ, QD X e ρ d) : SD X W e (cstC d) := ⟨fun ρ d z => by cases z; exact h ρ, fun ρ c z => by cases z⟩
theorem sd_int {i : Int} {j} : SD X W (.Constant (.int i) j pos) (cstC (.int i)) := sd_of fun _ => q_int
theorem sd_bool {i : Bool} {j} : SD X W (.Constant (.bool i) j pos) (cstC (.bool i)) := sd_of fun _ => q_bool
theorem sd_none {j} : SD X W (.Constant .none j pos) (cstC .none) := sd_of fun _ => q_none
theorem sd_str {i : Str} {j} : SD X W (.Constant (.str i) j pos) (cstC (.str i)) := sd_of fun _ => q_str
theorem sd_gint {n : Str} {i : Int} (hm : ∃ t, X.mg n = some (.int i t)) (hg : Gl X n := by rfl) (hd : (n == ("__debug__" : Str)) = false := by decide) : SD X W (.Name n pos) (cstC (.int i)) := by
  obtain ⟨t, hm⟩ := hm
  exact sd_of fun _ => q_cst (pe_glob (v := .int i) hg hm ⟨_, rfl⟩ hd) fun _ => .int i
theorem sd_gstr {n : Str} {i : Str} (hm : ∃ t, X.mg n = some (.str i t)) (hg : Gl X n := by rfl) (hd : (n == ("__debug__" : Str)) = false := by decide) : SD X W (.Name n pos) (cstC (.str i)) := by
  obtain ⟨t, hm⟩ := hm
  exact sd_of fun _ => q_cst (pe_glob (v := .str i) hg hm ⟨_, rfl⟩ hd) fun _ => .str i
/-! ### two values, read -/
theorem own_dp {K : PySem.W.Frag} {m : Mo} {Hs H : Hp} {v : V} {d : PyData} {fp : List Addr} (h : Own K m Hs H v (.da d) fp) : Dp K Hs v d := by cases h with | da h => exact h
theorem q2_imp {ρ : En} {r : R2} {r1 r2 x : Rs} (h : PE X e (tOp r (tA X.K ρ r1) (tA X.K ρ r2)))
    (hr : ∀ v w Hs H Q fp fq, Same Hs H → Own X.K .rdo Hs H v r1 fp → Own X.K .rdo Hs H w r2 fq → (∀ u Hs' H' f, Ext Hs H Hs' H' → Own X.K (.own []) Hs' H' u x f → f.Nodup → (∀ a ∈ f, H a = none ∧ Hs' a = none) → Q u H') → r v w H Q) : QV X e ρ x :=
  pe_imp h fun σ H Q ⟨Hs, av, env, k⟩ => ⟨Hs, av, env, fun v Hs1 H1 fp e1 o1 _ => ⟨Hs1, av, envQ_ext e1 env, fun w Hs2 H2 fq e2 o2 _ =>
    hr v w Hs2 H2 Q fp fq e2.sub (own_mono' e2.data e2.all o1) o2 fun u Hs3 H3 f e3 o3 n3 f3 => k u Hs3 H3 f ((e1.trans e2).trans e3) o3 n3 fun a m => ⟨(e1.trans e2).all.free (f3 a m).1, (f3 a m).2⟩⟩⟩
theorem qt2_imp {ρ : En} {r : R2} {r1 r2 : Rs} {t : Bool} (h : PT X e (tTest (tOp r (tA X.K ρ r1) (tA X.K ρ r2))))
    (hr : ∀ v w Hs H Q fp fq, Same Hs H → Own X.K .rdo Hs H v r1 fp → Own X.K .rdo Hs H w r2 fq → Q (.bl t) H → r v w H Q) : QT X e ρ t :=
  pt_imp h fun σ H Q ⟨Hs, av, env, k⟩ => ⟨Hs, av, env, fun v Hs1 H1 fp e1 o1 _ => ⟨Hs1, av, envQ_ext e1 env, fun w Hs2 H2 fq e2 o2 _ =>
    hr v w Hs2 H2 _ fp fq e2.sub (own_mono' e2.data e2.all o1) o2 ⟨t, rfl, k Hs2 H2 (e1.trans e2)⟩⟩⟩
def op2 (f : Rs → Rs → Option Rs) (sa sb : FE) : FE := fun ρ => match okk (sa ρ), okk (sb ρ) with
  | some a, some b => (f a b).map .ok
  | _, _ => none
theorem op2_ok {f : Rs → Rs → Option Rs} {ρ : En} {z : Rz Rs} (h : op2 f sa sb ρ = some z) : ∃ a b x, sa ρ = some (.ok a) ∧ sb ρ = some (.ok b) ∧ f a b = some x ∧ z = .ok x := by
  unfold op2 at h
  split at h
  · rename_i a b h1 h2
    cases q : f a b with
    | none => rw [q] at h; cases h
    | some x => rw [q] at h; cases h; exact ⟨a, b, x, okk_some h1, okk_some h2, q, rfl⟩
  · cases h
theorem sv_op2 {f : Rs → Rs → Option Rs} (ha : SA X W a sa) (hb : SA X W b sb) (h : ∀ ρ r1 r2 x, f r1 r2 = some x → QA X a ρ r1 → QA X b ρ r2 → QV X e ρ x) : SV X W e (op2 f sa sb) := by
  refine ⟨fun ρ r z => ?_, fun ρ c z => ?_⟩
  · obtain ⟨x, y, u, h1, h2, h3, h4⟩ := op2_ok z
    cases h4
    exact h ρ x y _ h3 (ha.ok _ _ h1) (hb.ok _ _ h2)
  · obtain ⟨x, y, u, h1, h2, h3, h4⟩ := op2_ok z
    cases h4
def asL : Rs → Option (List PyData)
  | .lst ds => some ds
  | .da (.list ds) => some ds
  | _ => none
theorem asL_own {K : PySem.W.Frag} {m : Mo} {Hs H : Hp} {v : V} {r : Rs} {ds : List PyData} {fp : List Addr} (s : Same Hs H) (h : Own K m Hs H v r fp) (hl : asL r = some ds) : ∃ a xs, v = .ref a ∧ H a = some (.lst xs) ∧ DpAll K Hs xs ds := by
  cases h with
  | da h =>
    cases h with
    | lst h1 h2 => cases hl; exact ⟨_, _, rfl, s _ _ h1, h2⟩
    | _ => cases hl
  | lst h1 h2 => cases hl; exact ⟨_, _, rfl, h1, h2⟩
  | _ => cases hl
/-- what is read as data -/
def asDD : Rs → Option PyData
  | .da d => some d
  | .lst ds => some (.list ds)
  | _ => none
theorem asDD_own {K : PySem.W.Frag} {m : Mo} {Hs H : Hp} {v : V} {r : Rs} {d : PyData} {fp : List Addr} (s : Same Hs H) (h : Own K m Hs H v r fp) (hl : asDD r = some d) : Dp K H v d := by
  cases h with
  | da h => cases hl; exact dp_mono s h
  | lst h1 h2 => cases hl; exact .lst h1 (dpAll_mono s h2)
  | _ => cases hl
theorem kfree {K : PySem.W.Frag} {Hs H : Hp} {ds : List PyData} {xs : List V} {Q : VK} (s : Same Hs H) (d : DpAll K Hs xs ds) (k : ∀ u Hs' H' f, Ext Hs H Hs' H' → Own K (.own []) Hs' H' u (.lst ds) f → f.Nodup → (∀ a ∈ f, H a = none ∧ Hs' a = none) → Q u H') : ∀ p, H p = none → Q (.ref p) (upd H p (.lst xs)) := fun p np =>
  k _ Hs _ [p] (Ext.more s np) (.lst upd_same d) (by simp) fun a m => by
    have z : a = p := by simpa using m
    subst z
    exact ⟨np, s.free np⟩
theorem kdat {K : PySem.W.Frag} {Hs H : Hp} {d : PyData} {u : V} {Q : VK} (s : Same Hs H) (h : Dp K Hs u d) (k : ∀ u Hs' H' f, Ext Hs H Hs' H' → Own K (.own []) Hs' H' u (.da d) f → f.Nodup → (∀ a ∈ f, H a = none ∧ Hs' a = none) → Q u H') : Q u H :=
  k u Hs H [] (.refl s) (.da h) (by simp) (by simp)
def addR (a b : Rs) : Option Rs := match a, b with
  | .da (.int i), .da (.int j) => some (.da (.int (i + j)))
  | .da (.str s), .da (.str t) => if s.length + t.length ≤ sizeLine then some (.da (.str (s ++ t))) else none
  | a, b => match asL a, asL b with
    | some xs, some ys => if xs.length + ys.length ≤ sizeLine then some (.lst (xs ++ ys)) else none
    | _, _ => none
theorem sv_add (ha : SA X W a sa) (hb : SA X W b sb) : SV X W (.BinOp a .Add b pos) (op2 addR sa sb) :=
  sv_op2 ha hb fun ρ r1 r2 x h q1 q2 => by
    unfold addR at h
    split at h
    · cases h
      exact q2_imp (pe_op op_add q1 q2) fun v w Hs H Q fp fq s o1 o2 k => by
        rw [dp_int (own_dp o1), dp_int (own_dp o2)]
        exact ⟨_, _, rfl, rfl, kdat s (.int _) k⟩
    · split at h
      · rename_i hz
        cases h
        exact q2_imp (pe_op op_add_str q1 q2) fun v w Hs H Q fp fq s o1 o2 k => by
          rw [dp_str (own_dp o1), dp_str (own_dp o2)]
          exact ⟨_, _, rfl, rfl, hz, kdat s (.str _) k⟩
      · cases h
    · split at h
      · rename_i xs ys h1 h2
        split at h
        · rename_i hz
          cases h
          exact q2_imp (pe_op op_cat q1 q2) fun v w Hs H Q fp fq s o1 o2 k => by
            obtain ⟨l, vs, rfl, e1, d1⟩ := asL_own s o1 h1
            obtain ⟨l', vs', rfl, e2, d2⟩ := asL_own s o2 h2
            exact ⟨l, l', vs, vs', rfl, rfl, e1, e2, by rw [dpAll_length d1, dpAll_length d2]; exact hz, kfree s (dpAll_append d1 d2) k⟩
        · cases h
      · cases h
def intR (f : Int → Int → Option Int) (a b : Rs) : Option Rs := match a, b with
  | .da (.int i), .da (.int j) => (f i j).map fun k => .da (.int k)
  | _, _ => none
theorem sv_int {f : Int → Int → Option Int} {op : Operator} {r : R2} (ho : OpR X (binaryOp op) r) (hr : ∀ i j k H Q, f i j = some k → Q (.int k) H → r (.int i) (.int j) H Q) (ha : SA X W a sa) (hb : SA X W b sb) : SV X W (.BinOp a op b pos) (op2 (intR f) sa sb) :=
  sv_op2 ha hb fun ρ r1 r2 x h q1 q2 => by
    unfold intR at h
    split at h
    · rename_i i j
      cases q : f i j with
      | none => rw [q] at h; cases h
      | some k =>
        rw [q] at h; cases h
        exact q2_imp (pe_op ho q1 q2) fun v w Hs H Q fp fq s o1 o2 kk => by
          rw [dp_int (own_dp o1), dp_int (own_dp o2)]
          exact hr i j k H Q q (kdat s (.int _) kk)
    · cases h
theorem sv_sub (ha : SA X W a sa) (hb : SA X W b sb) : SV X W (.BinOp a .Sub b pos) (op2 (intR fun i j => some (i - j)) sa sb) :=
  sv_int op_sub (fun i j k H Q h q => by cases h; exact ⟨i, j, rfl, rfl, q⟩) ha hb
theorem sv_div (ha : SA X W a sa) (hb : SA X W b sb) : SV X W (.BinOp a .FloorDiv b pos) (op2 (intR fun i j => if 0 < j ∧ j.natAbs.log2 < 9000 then some (i / j) else none) sa sb) :=
  sv_int op_fdivW (fun i j k H Q h q => by
    by_cases z : 0 < j ∧ j.natAbs.log2 < 9000
    · rw [if_pos z] at h; cases h; exact ⟨i, j, rfl, rfl, z, q⟩
    · rw [if_neg z] at h; cases h) ha hb
theorem sv_mod (ha : SA X W a sa) (hb : SA X W b sb) : SV X W (.BinOp a .Mod b pos) (op2 (intR fun i j => if 0 < j then some (i % j) else none) sa sb) :=
  sv_int op_mod (fun i j k H Q h q => by
    by_cases z : 0 < j
    · rw [if_pos z] at h; cases h; exact ⟨i, j, rfl, rfl, z, q⟩
    · rw [if_neg z] at h; cases h) ha hb
theorem sv_pow (ha : SA X W a sa) (hb : SA X W b sb) : SV X W (.BinOp a .Pow b pos) (op2 (intR fun i j => if 0 ≤ j ∧ j ≤ 1000000 ∧ i.natAbs < 2 ^ 64 then some (i ^ j.toNat) else none) sa sb) :=
  sv_int op_pow (fun i j k H Q h q => by
    by_cases z : 0 ≤ j ∧ j ≤ 1000000 ∧ i.natAbs < 2 ^ 64
    · rw [if_pos z] at h; cases h; exact ⟨i, j, rfl, rfl, z, q⟩
    · rw [if_neg z] at h; cases h) ha hb
open Classical in
noncomputable def mulR (a b : Rs) : Option Rs := match a, b with
  | .da (.int i), .da (.int j) => if i.natAbs.log2 + j.natAbs.log2 < 1000000 then some (.da (.int (i * j))) else none
  | .da (.str s), .da (.int n) => if MulOk s n then some (.da (.str (Txt.mul s n))) else none
  | a, .da (.int n) => match asL a with
    | some ds => if 0 ≤ n ∧ n ≤ 100000 ∧ ds.length * n.toNat ≤ 100000 then some (.lst (List.replicate n.toNat ds).flatten) else none
    | none => none
  | _, _ => none
theorem op_repS : OpR X (binaryOp .Mult) (fun x y H Q => ∃ i n, x = .str i ∧ y = .int n ∧ MulOk i n ∧ Q (.str (Txt.mul i n)) H) := by
  intro pins s σ H x y v u Q I rx ry h
  obtain ⟨i, n, rfl, rfl, hok, q⟩ := h
  obtain ⟨t, rfl⟩ := rx
  obtain ⟨t', rfl⟩ := ry
  exact SB.mul hok fun t' k => ⟨.str (Txt.mul i n), H, I.tok _, ⟨_, rfl⟩, q⟩
theorem dpAll_rep {K : PySem.W.Frag} {H : Hp} {xs : List V} {ds : List PyData} (h : DpAll K H xs ds) : ∀ m : Nat, DpAll K H (List.replicate m xs).flatten (List.replicate m ds).flatten
  | 0 => .nil
  | m + 1 => by rw [List.replicate_succ, List.replicate_succ, List.flatten_cons, List.flatten_cons]; exact dpAll_append h (dpAll_rep h m)
theorem sv_mul (ha : SA X W a sa) (hb : SA X W b sb) : SV X W (.BinOp a .Mult b pos) (op2 mulR sa sb) :=
  sv_op2 ha hb fun ρ r1 r2 x h q1 q2 => by
    unfold mulR at h
    split at h
    · split at h
      · rename_i hz
        cases h
        exact q2_imp (pe_op op_mulW q1 q2) fun v w Hs H Q fp fq s o1 o2 k => by
          rw [dp_int (own_dp o1), dp_int (own_dp o2)]
          exact ⟨_, _, rfl, rfl, hz, kdat s (.int _) k⟩
      · cases h
    · split at h
      · rename_i hz
        cases h
        exact q2_imp (pe_op op_repS q1 q2) fun v w Hs H Q fp fq s o1 o2 k => by
          rw [dp_str (own_dp o1), dp_int (own_dp o2)]
          exact ⟨_, _, rfl, rfl, hz, kdat s (.str _) k⟩
      · cases h
    · split at h
      · rename_i ds h1
        split at h
        · rename_i hz
          obtain ⟨z0, z1, z2⟩ := hz
          cases h
          exact q2_imp (pe_op op_rep q1 q2) fun v w Hs H Q fp fq s o1 o2 k => by
            obtain ⟨l, vs, rfl, e1, d1⟩ := asL_own s o1 h1
            rw [dp_int (own_dp o2)]
            exact ⟨l, _, vs, rfl, rfl, e1, by omega, by omega, by rw [dpAll_length d1]; exact Nat.le_trans z2 (by decide), kfree s (dpAll_rep d1 _) k⟩
        · cases h
      · cases h
    · cases h
/-! ### one value -/
def op1 (f : Rs → Option Rs) (sa : FE) : FE := fun ρ => match okk (sa ρ) with
  | some a => (f a).map .ok
  | none => none
theorem op1_ok {f : Rs → Option Rs} {ρ : En} {z : Rz Rs} (h : op1 f sa ρ = some z) : ∃ a x, sa ρ = some (.ok a) ∧ f a = some x ∧ z = .ok x := by
  unfold op1 at h
  split at h
  · rename_i a h1
    cases q : f a with
    | none => rw [q] at h; cases h
    | some x => rw [q] at h; cases h; exact ⟨a, x, okk_some h1, q, rfl⟩
  · cases h
theorem sv_op1 {f : Rs → Option Rs} (ha : SA X W a sa) (h : ∀ ρ r x, f r = some x → QA X a ρ r → QV X e ρ x) : SV X W e (op1 f sa) := by
  refine ⟨fun ρ r z => ?_, fun ρ c z => ?_⟩
  · obtain ⟨x, u, h1, h3, h4⟩ := op1_ok z
    cases h4
    exact h ρ x _ h3 (ha.ok _ _ h1)
  · obtain ⟨x, u, h1, h3, h4⟩ := op1_ok z
    cases h4
def negR : Rs → Option Rs
  | .da (.int i) => some (.da (.int (-i)))
  | _ => none
theorem sv_neg (ha : SA X W a sa) : SV X W (.UnaryOp .USub a pos) (op1 negR sa) :=
  sv_op1 ha fun ρ r x h q => by
    unfold negR at h
    split at h
    · cases h; exact q_neg (qd_a q)
    · cases h
def absR : Rs → Option Rs
  | .da (.int i) => some (.da (.int i.natAbs))
  | _ => none
theorem sv_abs {p : Pos} (hm : X.mg "abs" = none) (ha : SA X W a sa) (hg : Gl X "abs" := by rfl) (he : starEach (a :: []) X.env = (false, eval a X.env) :: starEach [] X.env := by rfl) (hpl : (backTo pos (starEach [] X.env)).any (·.1) = false := by rfl) :
    SV X W (.Call (.Name "abs" p) [a] [] pos) (op1 absR sa) :=
  sv_op1 ha fun ρ r x h q => by
    unfold absR at h
    split at h
    · cases h; exact q_abs hm (qd_a q) hg he hpl
    · cases h
end
end Cg

/-! Expressions as functions of the slots: comparisons, tests, displays, parts. -/
namespace Cg
open PySem L2
section
variable {X : Cx} {W : WX} {e a b c : Expr} {es rest : List Expr} {pos : Pos} {s sa sb sc : FE} {sd sd' : FD} {t t' : En → Option Bool}
def cm2 (f : Rs → Rs → Option Bool) (sa sb : FE) : En → Option Bool := fun ρ => match okk (sa ρ), okk (sb ρ) with
  | some a, some b => f a b
  | _, _ => none
def bV (t : En → Option Bool) : FE := fun ρ => (t ρ).map fun b => .ok (.da (.bool b))
theorem cm2_ok {f : Rs → Rs → Option Bool} {ρ : En} {z : Bool} (h : cm2 f sa sb ρ = some z) : ∃ a b, sa ρ = some (.ok a) ∧ sb ρ = some (.ok b) ∧ f a b = some z := by
  unfold cm2 at h
  split at h
  · rename_i a b h1 h2
    exact ⟨a, b, okk_some h1, okk_some h2, h⟩
  · cases h
theorem sv_b (h : ∀ ρ b, t ρ = some b → QD X e ρ (.bool b)) : SV X W e (bV t) := by
  refine ⟨fun ρ r z => ?_, fun ρ c z => ?_⟩ <;> unfold bV at z <;> cases q : t ρ <;> rw [q] at z <;> cases z
  exact h ρ _ q
theorem st_cmp {op : CmpOp} {r : R2} {f : Rs → Rs → Option Bool} (ho : OpR X (compareOp op) r) (ha : SA X W a sa) (hb : SA X W b sb) (hm : behindInMarks op b = false)
    (hr : ∀ r1 r2 t v w Hs H Q fp fq, f r1 r2 = some t → Same Hs H → Own X.K .rdo Hs H v r1 fp → Own X.K .rdo Hs H w r2 fq → Q (.bl t) H → r v w H Q) : ST X (.Compare a [op] [b] pos) (cm2 f sa sb) := fun ρ z h => by
  obtain ⟨x, y, h1, h2, h3⟩ := cm2_ok h
  exact qt2_imp (pt_cmpR ho (ha.ok _ _ h1) (hb.ok _ _ h2) hm) fun v w Hs H Q fp fq s o1 o2 k => hr _ _ _ v w Hs H Q fp fq h3 s o1 o2 k
theorem sv_cmp {op : CmpOp} {r : R2} {f : Rs → Rs → Option Bool} (ho : OpR X (compareOp op) r) (ha : SA X W a sa) (hb : SA X W b sb) (hm : behindInMarks op b = false)
    (hr : ∀ r1 r2 t v w Hs H Q fp fq, f r1 r2 = some t → Same Hs H → Own X.K .rdo Hs H v r1 fp → Own X.K .rdo Hs H w r2 fq → Q (.bl t) H → r v w H Q) : SV X W (.Compare a [op] [b] pos) (bV (cm2 f sa sb)) := sv_b fun ρ z h => by
  obtain ⟨x, y, h1, h2, h3⟩ := cm2_ok h
  exact q2_imp (pe_cmpR ho (ha.ok _ _ h1) (hb.ok _ _ h2) hm) fun v w Hs H Q fp fq s o1 o2 k => hr _ _ _ v w Hs H Q fp fq h3 s o1 o2 (kdat s (.bl _) k)
def cmI (p : Int → Int → Bool) (a b : Rs) : Option Bool := match a, b with
  | .da (.int i), .da (.int j) => some (p i j)
  | _, _ => none
theorem cmI_r {p : Int → Int → Bool} {r1 r2 : Rs} {t : Bool} {v w : V} {Hs H : Hp} {Q : VK} {fp fq : List Addr} (h : cmI p r1 r2 = some t) (o1 : Own X.K .rdo Hs H v r1 fp) (o2 : Own X.K .rdo Hs H w r2 fq) (k : Q (.bl t) H) : ∃ i j, v = .int i ∧ w = .int j ∧ Q (.bl (p i j)) H := by
  unfold cmI at h
  split at h
  · cases h; exact ⟨_, _, dp_int (own_dp o1), dp_int (own_dp o2), k⟩
  · cases h
def ltR (a b : Rs) : Option Bool := match a, b with
  | .da (.int i), .da (.int j) => some (decide (i < j))
  | .da (.str i), .da (.str j) => some (decide (i.cps.toList < j.cps.toList))
  | _, _ => none
theorem ltR_r {r1 r2 : Rs} {t : Bool} {v w : V} {Hs H : Hp} {Q : VK} {fp fq : List Addr} (h : ltR r1 r2 = some t) (o1 : Own X.K .rdo Hs H v r1 fp) (o2 : Own X.K .rdo Hs H w r2 fq) (k : Q (.bl t) H) :
    (∃ i j, v = .int i ∧ w = .int j ∧ Q (.bl (decide (i < j))) H) ∨ ∃ i j, v = .str i ∧ w = .str j ∧ Q (.bl (decide (i.cps.toList < j.cps.toList))) H := by
  unfold ltR at h
  split at h
  · cases h; exact .inl ⟨_, _, dp_int (own_dp o1), dp_int (own_dp o2), k⟩
  · cases h; exact .inr ⟨_, _, dp_str (own_dp o1), dp_str (own_dp o2), k⟩
  · cases h
theorem st_lt (ha : SA X W a sa) (hb : SA X W b sb) : ST X (.Compare a [.Lt] [b] pos) (cm2 ltR sa sb) := st_cmp (op_lt.or op_lt_str) ha hb (nomark _) fun _ _ _ v w Hs H Q fp fq h s o1 o2 k => ltR_r h o1 o2 k
theorem sv_lt (ha : SA X W a sa) (hb : SA X W b sb) : SV X W (.Compare a [.Lt] [b] pos) (bV (cm2 ltR sa sb)) := sv_cmp (op_lt.or op_lt_str) ha hb (nomark _) fun _ _ _ v w Hs H Q fp fq h s o1 o2 k => ltR_r h o1 o2 k
theorem st_le (ha : SA X W a sa) (hb : SA X W b sb) : ST X (.Compare a [.LtE] [b] pos) (cm2 (cmI fun i j => decide (i ≤ j)) sa sb) := st_cmp op_le ha hb (nomark _) fun _ _ _ v w Hs H Q fp fq h s o1 o2 k => cmI_r h o1 o2 k
theorem sv_le (ha : SA X W a sa) (hb : SA X W b sb) : SV X W (.Compare a [.LtE] [b] pos) (bV (cm2 (cmI fun i j => decide (i ≤ j)) sa sb)) := sv_cmp op_le ha hb (nomark _) fun _ _ _ v w Hs H Q fp fq h s o1 o2 k => cmI_r h o1 o2 k
theorem st_gt (ha : SA X W a sa) (hb : SA X W b sb) : ST X (.Compare a [.Gt] [b] pos) (cm2 (cmI fun i j => decide (j < i)) sa sb) := st_cmp op_gt ha hb (nomark _) fun _ _ _ v w Hs H Q fp fq h s o1 o2 k => cmI_r h o1 o2 k
theorem sv_gt (ha : SA X W a sa) (hb : SA X W b sb) : SV X W (.Compare a [.Gt] [b] pos) (bV (cm2 (cmI fun i j => decide (j < i)) sa sb)) := sv_cmp op_gt ha hb (nomark _) fun _ _ _ v w Hs H Q fp fq h s o1 o2 k => cmI_r h o1 o2 k
theorem st_ge (ha : SA X W a sa) (hb : SA X W b sb) : ST X (.Compare a [.GtE] [b] pos) (cm2 (cmI fun i j => decide (j ≤ i)) sa sb) := st_cmp op_ge ha hb (nomark _) fun _ _ _ v w Hs H Q fp fq h s o1 o2 k => cmI_r h o1 o2 k
theorem sv_ge (ha : SA X W a sa) (hb : SA X W b sb) : SV X W (.Compare a [.GtE] [b] pos) (bV (cm2 (cmI fun i j => decide (j ≤ i)) sa sb)) := sv_cmp op_ge ha hb (nomark _) fun _ _ _ v w Hs H Q fp fq h s o1 o2 k => cmI_r h o1 o2 k
/-- == of what is read as data -/
def eqR (a b : Rs) : Option Bool := match asDD a, asDD b with
  | some x, some y => if SeqAt.shaped x && SeqAt.shaped y then some (PyData.eqv x y) else none
  | _, _ => none
def neR (a b : Rs) : Option Bool := (eqR a b).map (!·)
theorem eqR_r {r1 r2 : Rs} {t : Bool} {v w : V} {Hs H : Hp} {fp fq : List Addr} (h : eqR r1 r2 = some t) (s : Same Hs H) (o1 : Own X.K .rdo Hs H v r1 fp) (o2 : Own X.K .rdo Hs H w r2 fq) : ∃ d1 d2, L2.Dp X.K H v d1 ∧ L2.Dp X.K H w d2 ∧ SeqAt.shaped d1 = true ∧ SeqAt.shaped d2 = true ∧ t = PyData.eqv d1 d2 := by
  unfold eqR at h
  split at h
  · rename_i x y h1 h2
    split at h
    · rename_i hz
      obtain ⟨z1, z2⟩ := Bool.and_eq_true_iff.mp hz
      cases h
      exact ⟨x, y, dp_l2 (asDD_own s o1 h1), dp_l2 (asDD_own s o2 h2), z1, z2, rfl⟩
    · cases h
  · cases h
theorem st_eq {k : Nat} (hr : Room k X.A) (ha : SA X W a sa) (hb : SA X W b sb) : ST X (.Compare a [.Eq] [b] pos) (cm2 eqR sa sb) := st_cmp (op_eqD hr.units) ha hb (nomark _) fun _ _ _ v w Hs H Q fp fq h s o1 o2 k => by
  obtain ⟨d1, d2, q1, q2, s1, s2, rfl⟩ := eqR_r h s o1 o2
  exact ⟨d1, d2, q1, q2, s1, s2, k⟩
theorem sv_eq {k : Nat} (hr : Room k X.A) (ha : SA X W a sa) (hb : SA X W b sb) : SV X W (.Compare a [.Eq] [b] pos) (bV (cm2 eqR sa sb)) := sv_cmp (op_eqD hr.units) ha hb (nomark _) fun _ _ _ v w Hs H Q fp fq h s o1 o2 k => by
  obtain ⟨d1, d2, q1, q2, s1, s2, rfl⟩ := eqR_r h s o1 o2
  exact ⟨d1, d2, q1, q2, s1, s2, k⟩
theorem neR_r {r1 r2 : Rs} {t : Bool} {v w : V} {Hs H : Hp} {fp fq : List Addr} (h : neR r1 r2 = some t) (s : Same Hs H) (o1 : Own X.K .rdo Hs H v r1 fp) (o2 : Own X.K .rdo Hs H w r2 fq) : ∃ d1 d2, L2.Dp X.K H v d1 ∧ L2.Dp X.K H w d2 ∧ SeqAt.shaped d1 = true ∧ SeqAt.shaped d2 = true ∧ t = !PyData.eqv d1 d2 := by
  unfold neR at h
  cases q : eqR r1 r2 with
  | none => rw [q] at h; cases h
  | some z =>
    rw [q] at h; cases h
    obtain ⟨d1, d2, q1, q2, s1, s2, rfl⟩ := eqR_r q s o1 o2
    exact ⟨d1, d2, q1, q2, s1, s2, rfl⟩
theorem st_ne {k : Nat} (hr : Room k X.A) (ha : SA X W a sa) (hb : SA X W b sb) : ST X (.Compare a [.NotEq] [b] pos) (cm2 neR sa sb) := st_cmp (op_neD hr.units) ha hb (nomark _) fun _ _ _ v w Hs H Q fp fq h s o1 o2 k => by
  obtain ⟨d1, d2, q1, q2, s1, s2, rfl⟩ := neR_r h s o1 o2
  exact ⟨d1, d2, q1, q2, s1, s2, k⟩
theorem sv_ne {k : Nat} (hr : Room k X.A) (ha : SA X W a sa) (hb : SA X W b sb) : SV X W (.Compare a [.NotEq] [b] pos) (bV (cm2 neR sa sb)) := sv_cmp (op_neD hr.units) ha hb (nomark _) fun _ _ _ v w Hs H Q fp fq h s o1 o2 k => by
  obtain ⟨d1, d2, q1, q2, s1, s2, rfl⟩ := neR_r h s o1 o2
  exact ⟨d1, d2, q1, q2, s1, s2, k⟩
/-! ### is None -/
def isNR : Rs → Option Bool
  | .da d => some (isN d)
  | .un => none
  | _ => some false
theorem isNR_r {r : Rs} {t : Bool} {v : V} {Hs H : Hp} {fp : List Addr} (h : isNR r = some t) (o : Own X.K .rdo Hs H v r fp) : decide (v = .non) = t := by
  cases o with
  | un => cases h
  | da h' => cases h; exact dp_non_iff h'
  | _ => cases h; simp
def cm1 (f : Rs → Option Bool) (sa : FE) : En → Option Bool := fun ρ => match okk (sa ρ) with
  | some a => f a
  | none => none
theorem cm1_ok {f : Rs → Option Bool} {ρ : En} {z : Bool} (h : cm1 f sa ρ = some z) : ∃ a, sa ρ = some (.ok a) ∧ f a = some z := by
  unfold cm1 at h
  split at h
  · rename_i a h1
    exact ⟨a, okk_some h1, h⟩
  · cases h
theorem st_isN {j} {pp : Pos} (ha : SA X W a sa) : ST X (.Compare a [.Is] [.Constant .none j pp] pos) (cm1 isNR sa) := fun ρ z h => by
  obtain ⟨x, h1, h2⟩ := cm1_ok h
  exact pt_imp (pt_cmp (pc_isN (ha.ok _ _ h1)) rfl) fun σ H Q ⟨Hs, av, env, k⟩ => ⟨Hs, av, env, fun v Hs1 H1 fp e1 o _ => ⟨_, rfl, by rw [isNR_r h2 o]; exact k Hs1 H1 e1⟩⟩
theorem sv_isN {j} {pp : Pos} (ha : SA X W a sa) : SV X W (.Compare a [.Is] [.Constant .none j pp] pos) (bV (cm1 isNR sa)) := sv_b fun ρ z h => by
  obtain ⟨x, h1, h2⟩ := cm1_ok h
  exact pe_imp (pe_cmp (pc_isN (ha.ok _ _ h1)) rfl) fun σ H Q ⟨Hs, av, env, k⟩ => ⟨Hs, av, env, fun v Hs1 H1 fp e1 o _ => by simp only [isNR_r h2 o]; exact kdata k e1 (.bl _)⟩
theorem st_notN {j} {pp : Pos} (ha : SA X W a sa) : ST X (.Compare a [.IsNot] [.Constant .none j pp] pos) (cm1 (fun r => (isNR r).map (!·)) sa) := fun ρ z h => by
  obtain ⟨x, h1, h2⟩ := cm1_ok h
  cases q : isNR x with
  | none => rw [q] at h2; cases h2
  | some y =>
    rw [q] at h2; cases h2
    exact pt_imp (pt_cmp (pc_notN (ha.ok _ _ h1)) rfl) fun σ H Q ⟨Hs, av, env, k⟩ => ⟨Hs, av, env, fun v Hs1 H1 fp e1 o _ => ⟨_, rfl, by rw [isNR_r q o]; exact k Hs1 H1 e1⟩⟩
theorem sv_notN {j} {pp : Pos} (ha : SA X W a sa) : SV X W (.Compare a [.IsNot] [.Constant .none j pp] pos) (bV (cm1 (fun r => (isNR r).map (!·)) sa)) := sv_b fun ρ z h => by
  obtain ⟨x, h1, h2⟩ := cm1_ok h
  cases q : isNR x with
  | none => rw [q] at h2; cases h2
  | some y =>
    rw [q] at h2; cases h2
    exact pe_imp (pe_cmp (pc_notN (ha.ok _ _ h1)) rfl) fun σ H Q ⟨Hs, av, env, k⟩ => ⟨Hs, av, env, fun v Hs1 H1 fp e1 o _ => by simp only [isNR_r q o]; exact kdata k e1 (.bl _)⟩
/-! ### tests -/
theorem st_val (h : SV X W e s) (he : ∀ whole, isTrue e X.env whole = (do let v ← whole; standAt e.pos; holding [v] (truthy v)) := by intro _; rfl) : ST X e (fun ρ => match s ρ with
  | some (.ok (.da (.bool b))) => some b
  | _ => none) := fun ρ z q => by
  dsimp only at q
  split at q
  · rename_i h1
    cases q; exact qt_val (h.ok _ _ h1) he
  · cases q
theorem st_not (h : ST X a t) : ST X (.UnaryOp .Not a pos) (fun ρ => (t ρ).map (!·)) := fun ρ z q => by
  cases h1 : t ρ with
  | none => simp only [h1] at q; cases q
  | some b => simp only [h1] at q; cases q; exact qt_not (h ρ b h1)
def andT (t t' : En → Option Bool) : En → Option Bool := fun ρ => match t ρ with
  | some true => t' ρ
  | some false => some false
  | none => none
def orT (t t' : En → Option Bool) : En → Option Bool := fun ρ => match t ρ with
  | some true => some true
  | some false => t' ρ
  | none => none
def SW (X : Cx) (e : Expr) (s : En → Option Bool) : Prop := ∀ ρ b, s ρ = some b → QW X e ρ b
theorem sw_and1 (h : ST X a t) : SW X (.BoolOp .And [a] pos) t := fun ρ b q => qw_and1 (h ρ b q)
theorem sw_or1 (h : ST X a t) : SW X (.BoolOp .Or [a] pos) t := fun ρ b q => qw_or1 (h ρ b q)
theorem sw_and (h : ST X a t) (h2 : SW X (.BoolOp .And (b :: rest) pos) t') : SW X (.BoolOp .And (a :: b :: rest) pos) (andT t t') := fun ρ z q => by
  unfold andT at q
  split at q
  · rename_i h1
    have := qw_and (h ρ _ h1) (fun _ => h2 ρ z q)
    simpa using this
  · rename_i h1
    cases q
    exact qw_and (q := true) (h ρ _ h1) (fun z => nomatch z)
  · cases q
theorem sw_or (h : ST X a t) (h2 : SW X (.BoolOp .Or (b :: rest) pos) t') : SW X (.BoolOp .Or (a :: b :: rest) pos) (orT t t') := fun ρ z q => by
  unfold orT at q
  split at q
  · rename_i h1
    cases q
    exact qw_or (q := true) (h ρ _ h1) (fun z => nomatch z)
  · rename_i h1
    have := qw_or (h ρ _ h1) (fun _ => h2 ρ z q)
    simpa using this
  · cases q
theorem st_w (h : SW X e t) : ST X e t := fun ρ b q => qt_w (h ρ b q)
theorem sv_one {op} (h : SV X W a (bV t)) : SV X W (.BoolOp op [a] pos) (bV t) := by
  refine ⟨fun ρ r z => q_one (h.ok ρ r z), fun ρ c z => ?_⟩
  unfold bV at z
  cases q : t ρ <;> rw [q] at z <;> cases z
theorem bV_ok {ρ : En} {b : Bool} (h : t ρ = some b) : bV t ρ = some (.ok (.da (.bool b))) := by unfold bV; rw [h]; rfl
theorem sv_and (h : SV X W a (bV t)) (h2 : SV X W (.BoolOp .And (b :: rest) pos) (bV t')) : SV X W (.BoolOp .And (a :: b :: rest) pos) (bV (andT t t')) := sv_b fun ρ z q => by
  unfold andT at q
  split at q
  · rename_i h1
    have := q_and (h.ok ρ _ (bV_ok h1)) (fun _ => h2.ok ρ _ (bV_ok q))
    simpa using this
  · rename_i h1
    cases q
    exact q_and (q := true) (h.ok ρ _ (bV_ok h1)) (fun z => nomatch z)
  · cases q
theorem sv_or (h : SV X W a (bV t)) (h2 : SV X W (.BoolOp .Or (b :: rest) pos) (bV t')) : SV X W (.BoolOp .Or (a :: b :: rest) pos) (bV (orT t t')) := sv_b fun ρ z q => by
  unfold orT at q
  split at q
  · rename_i h1
    cases q
    exact q_or (q := true) (h.ok ρ _ (bV_ok h1)) (fun z => nomatch z)
  · rename_i h1
    have := q_or (h.ok ρ _ (bV_ok h1)) (fun _ => h2.ok ρ _ (bV_ok q))
    simpa using this
  · cases q
theorem sv_not (h : SV X W a (bV t)) : SV X W (.UnaryOp .Not a pos) (bV (fun ρ => (t ρ).map (!·))) := sv_b fun ρ z q => by
  cases h1 : t ρ with
  | none => simp only [h1] at q; cases q
  | some b => simp only [h1] at q; cases q; exact q_not (h.ok ρ _ (bV_ok h1))
/-- a value that is a bool -/
def asB (s : FE) : En → Option Bool := fun ρ => match s ρ with
  | some (.ok (.da (.bool b))) => some b
  | _ => none
theorem sv_asB (h : SV X W e s) : SV X W e (bV (asB s)) := sv_b fun ρ z q => by
  unfold asB at q
  split at q
  · rename_i h1; cases q; exact h.ok _ _ h1
  · cases q
def ifE (t : En → Option Bool) (sa sb : FE) : FE := fun ρ => match t ρ with
  | some true => (okk (sa ρ)).map .ok
  | some false => (okk (sb ρ)).map .ok
  | none => none
theorem sv_if (hc : ST X c t) (ha : SV X W a sa) (hb : SV X W b sb) : SV X W (.IfExp c a b pos) (ifE t sa sb) := by
  refine ⟨fun ρ r z => ?_, fun ρ cc z => ?_⟩ <;> unfold ifE at z <;> split at z
  · rename_i h1
    cases q : okk (sa ρ) with
    | none => rw [q] at z; cases z
    | some y => rw [q] at z; cases z; exact q_ifExp (hc ρ _ h1) (fun _ => ha.ok _ _ (okk_some q)) (fun z => nomatch z)
  · rename_i h1
    cases q : okk (sb ρ) with
    | none => rw [q] at z; cases z
    | some y => rw [q] at z; cases z; exact q_ifExp (hc ρ _ h1) (fun z => nomatch z) (fun _ => hb.ok _ _ (okk_some q))
  · cases z
  · cases q : okk (sa ρ) <;> rw [q] at z <;> cases z
  · cases q : okk (sb ρ) <;> rw [q] at z <;> cases z
  · cases z
/-- a < b < c, of ints -/
def chI (p p' : Int → Int → Bool) (sa sb sc : FE) : En → Option Bool := fun ρ => match okk (sa ρ), okk (sb ρ), okk (sc ρ) with
  | some (.da (.int i)), some (.da (.int j)), some (.da (.int k)) => some (p i j && p' j k)
  | _, _, _ => none
theorem st_chain {op op' : CmpOp} {p p' : Int → Int → Bool} (ho : OpR X (compareOp op) (rI0 fun i j => .bl (p i j))) (ho' : OpR X (compareOp op') (rI0 fun i j => .bl (p' i j))) (ha : SA X W a sa) (hb : SA X W b sb) (hc : SA X W c sc)
    (hm : lastMarks [op, op'] [b, c] = false := by with_unfolding_all rfl) : ST X (.Compare a [op, op'] [b, c] pos) (chI p p' sa sb sc) := fun ρ z q => by
  unfold chI at q
  split at q
  · rename_i i j k h1 h2 h3
    cases q
    refine pt_imp (pt_chain ho ho' (ha.ok _ _ (okk_some h1)) (hb.ok _ _ (okk_some h2)) (hc.ok _ _ (okk_some h3)) hm) fun σ H Q ⟨Hs, av, env, kk⟩ => ⟨Hs, av, env, fun v Hs1 H1 fp e1 o1 _ => ⟨Hs1, av, envQ_ext e1 env, fun w Hs2 H2 fq e2 o2 _ => ?_⟩⟩
    refine ⟨i, j, dp_int (own_dp o1), dp_int (own_dp o2), p i j, rfl, ?_⟩
    cases hp : p i j with
    | true => exact iteT ⟨Hs2, av, envQ_ext (e1.trans e2) env, fun u Hs3 H3 fr e3 o3 _ => ⟨j, k, dp_int (own_dp o2), dp_int (own_dp o3), _, rfl, by have := kk Hs3 H3 ((e1.trans e2).trans e3); rw [hp] at this; simpa using this⟩⟩
    | false => exact iteF ⟨_, rfl, by have := kk Hs2 H2 (e1.trans e2); rw [hp] at this; simpa using this⟩
  · cases q
end
end Cg

/-! Expressions as functions of the slots: displays, parts, built-ins. -/
namespace Cg
open PySem L2
section
variable {X : Cx} {W : WX} {e a b c o : Expr} {es rest : List Expr} {pos apos pp p2 : Pos} {s sa sb sc : FE} {sd sd' : FD} {t t' : En → Option Bool} {ss : En → Option (Rz (List PyData))}
theorem pe_never : PE X e (fun _ _ _ => False) := ⟨fun _ _ _ _ _ _ h => h.elim⟩
theorem pa_never : PA X es (fun _ _ _ => False) := ⟨fun _ _ _ _ _ _ _ h => h.elim⟩
theorem tX_any {K : PySem.W.Frag} {ρ : En} {cn : Str} {σ : St} {H : Hp} {Q Q' : VK} (h : tX K W ρ cn σ H Q) : tX K W ρ cn σ H Q' := h
/-! ### displays -/
def nilD : En → Option (Rz (List PyData)) := fun _ => some (.ok [])
def consD (sd : FD) (ss : En → Option (Rz (List PyData))) : En → Option (Rz (List PyData)) := fun ρ => bnz (sd ρ) fun d => bnz (ss ρ) fun ds => some (.ok (d :: ds))
theorem sds_nil : SDs X W [] nilD := ⟨fun ρ ds z => by cases z; exact qs_nil, fun ρ c z => by cases z⟩
theorem sds_cons (h1 : SD X W e sd) (h2 : SDs X W es ss) (hs : starEach (e :: es) X.env = (false, eval e X.env) :: starEach es X.env := by rfl) : SDs X W (e :: es) (consD sd ss) := by
  refine ⟨fun ρ ds z => ?_, fun ρ cc z => ?_⟩
  · obtain ⟨d, q1, z⟩ := bnz_ok z
    obtain ⟨ds', q2, z⟩ := bnz_ok z
    cases z
    exact qs_cons (h1.ok _ _ q1) (h2.ok _ _ q2) hs
  · rcases bnz_ex z with q1 | ⟨d, q1, z⟩
    · exact pa_imp (pa_cons (h1.ex _ _ q1) (pa_never (es := es)) hs) fun σ H Q h => h
    · rcases bnz_ex z with q2 | ⟨d, q2, z⟩
      · refine pa_imp (pa_cons (h1.ok _ _ q1) (h2.ex _ _ q2) hs) fun σ H Q ⟨Hs, av, env, k⟩ => tq_data env fun v Hs1 H1 e1 dv => ⟨Hs1, av, envQ_ext e1 env, fun Hs' H' e' => k Hs' H' (e1.trans e')⟩
      · cases z
def tupC (ss : En → Option (Rz (List PyData))) : FD := fun ρ => bnz (ss ρ) fun ds => if ds.length ≤ 1000 then some (.ok (.tuple ds)) else none
theorem sd_tup {x1} (h : SDs X W es ss) : SD X W (.Tuple es x1 pos) (tupC ss) := by
  refine ⟨fun ρ ds z => ?_, fun ρ cc z => ?_⟩
  · obtain ⟨d, q1, z⟩ := bnz_ok z
    by_cases hl : d.length ≤ 1000
    · rw [if_pos hl] at z; cases z
      exact q_tup (h.ok _ _ q1) (Nat.ble_eq_true_of_le hl)
    · rw [if_neg hl] at z; cases z
  · rcases bnz_ex z with q1 | ⟨d, q1, z⟩
    · exact pe_imp (pe_tup (h.ex _ _ q1)) fun σ H Q h => h
    · split at z <;> cases z
def lstC (ss : En → Option (Rz (List PyData))) : FE := fun ρ => bnz (ss ρ) fun ds => if ds.length ≤ 1000 then some (.ok (.lst ds)) else none
theorem sv_lst (h : SDs X W es ss) : SV X W (.List es pos) (lstC ss) := by
  refine ⟨fun ρ ds z => ?_, fun ρ cc z => ?_⟩
  · obtain ⟨d, q1, z⟩ := bnz_ok z
    by_cases hl : d.length ≤ 1000
    · rw [if_pos hl] at z; cases z
      exact q_listO (h.ok _ _ q1) (Nat.ble_eq_true_of_le hl)
    · rw [if_neg hl] at z; cases z
  · rcases bnz_ex z with q1 | ⟨d, q1, z⟩
    · exact pe_imp (pe_lst (h.ex _ _ q1)) fun σ H Q h => h
    · split at z <;> cases z
def cstV (r : Rs) : FE := fun _ => some (.ok r)
theorem sv_dctK : SV X W (.Dict [] [] pos) (cstV (.dct 0 [])) := by
  refine ⟨fun ρ ds z => ?_, fun ρ cc z => ?_⟩ <;> cases z
  refine pe_imp pe_dnewK fun σ H Q ⟨Hs, av, env, k⟩ p np => k _ Hs _ [p] (Ext.more env.sub np) (.dct (n := 0) (kvv := []) (show upd H p (.dK []) p = _ from upd_same) (by simp) .nil) (by simp) fun a m => ?_
  have z : a = p := by simpa using m
  subst z
  exact ⟨np, env.sub.free np⟩
theorem sv_dctT : SV X W (.Dict [] [] pos) (cstV (.dtt [])) := by
  refine ⟨fun ρ ds z => ?_, fun ρ cc z => ?_⟩ <;> cases z
  refine pe_imp pe_dnewT fun σ H Q ⟨Hs, av, env, k⟩ p np => k _ Hs _ [p] (Ext.more env.sub np) (.dtt (kvv := []) upd_same rfl .nil) (by simp) fun a m => ?_
  have z : a = p := by simpa using m
  subst z
  exact ⟨np, env.sub.free np⟩
/-! ### parts -/
def sa1 (f : Rs → Option Rs) (sa : FE) : FE := fun ρ => bnz (sa ρ) fun r => (f r).map .ok
theorem sa_1 {f : Rs → Option Rs} (ha : SA X W a sa) (h : ∀ ρ r x, f r = some x → QA X a ρ r → QA X e ρ x) (hx : ∀ ρ cc, QX X W a ρ cc → QX X W e ρ cc) : SA X W e (sa1 f sa) := by
  refine ⟨fun ρ r z => ?_, fun ρ cc z => ?_⟩
  · obtain ⟨d, q1, z⟩ := bnz_ok z
    cases q : f d with
    | none => rw [q] at z; cases z
    | some x => rw [q] at z; cases z; exact h _ _ _ q (ha.ok _ _ q1)
  · rcases bnz_ex z with q1 | ⟨d, q1, z⟩
    · exact hx _ _ (ha.ex _ _ q1)
    · cases q : f d <;> rw [q] at z <;> cases z
def atR (cn f : Str) : Rs → Option Rs
  | .ins c fs => if c = cn then fs.lookup f else none
  | _ => none
theorem sa_attr {cn f : Str} (cl : Cls X.K (He.ga X.K cn)) (na : NoAttr X.K (He.ga X.K cn) f) (ha : SA X W a sa) (hb : attributeBase a f X.env (eval a X.env) = eval a X.env := by rfl) : SA X W (.Attribute a f pos) (sa1 (atR cn f) sa) :=
  sa_1 ha (fun ρ r x h q => by
    unfold atR at h
    split at h
    · split at h
      · rename_i hc
        subst hc
        exact pe_imp (pe_fld q hb) fun σ H Q ⟨Hs, av, env, k⟩ => ⟨Hs, av, env, fun v Hs1 H1 fp e1 o n => by
          cases o with
          | ins h1 h2 =>
            obtain ⟨u, fpx, fpc, l, o, pm, _⟩ := ownF_foc h2 h
            exact ⟨_, _, _, _, _, rfl, h1, cl, na, l, k u Hs1 H1 fpx e1 o fun a m => n a (by simp [pm.mem_iff, m])⟩⟩
      · cases h
    · cases h) fun ρ cc h => pe_imp (pe_fld h hb) fun σ H Q q => q
def atI' (rs : List Rs) (i : Int) : Option Rs := (ixN rs.length i).bind fun j => rs[j]?
/-- a[d], read -/
def subR (a b : Rs) : Option Rs := match a, b with
  | .da (.tuple ds), .da (.int i) => (atI ds i).map .da
  | .da (.list ds), .da (.int i) => (atI ds i).map .da
  | .lst ds, .da (.int i) => (atI ds i).map .da
  | .scr ns, .da (.int i) => (atI ns i).map fun n => .da (.int n)
  | .da (.str z), .da (.int i) => if z.length ≤ sizeLine then (atI z.cps.toList i).map fun c => .da (.str ⟨#[c]⟩) else none
  | .dct _ kvs, .da (.str k) => valR (.inr k) kvs
  | .dct _ kvs, .da (.int k) => valR (.inl k) kvs
  | .tup rs, .da (.int i) => (ixN rs.length i).bind fun j => rs[j]?
  | .lsr rs, .da (.int i) => (ixN rs.length i).bind fun j => rs[j]?
  | _, _ => none
theorem atI_map {α β : Type} (f : α → β) (xs : List α) (i : Int) : atI (xs.map f) i = (atI xs i).map f := by
  unfold atI
  rw [List.length_map]
  cases ixN xs.length i with
  | none => rfl
  | some j => simp
theorem map_some {α β : Type} {f : α → β} {o : Option α} {b : β} (h : o.map f = some b) : ∃ a, o = some a ∧ f a = b := by
  cases o with
  | none => cases h
  | some a => exact ⟨a, rfl, by simpa using h⟩
theorem qa2_imp {ρ : En} {r : R2} {r1 x : Rs} {d : PyData} (h : PE X e (tOp r (tA X.K ρ r1) (tV X.K ρ (.da d))))
    (hr : ∀ v w Hs H Q fp, Same Hs H → Own X.K .rdo Hs H v r1 fp → Dp X.K Hs w d → (∀ u fq, Own X.K .rdo Hs H u x fq → (∀ a ∈ fq, a ∈ fp) → Q u H) → r v w H Q) : QA X e ρ x :=
  pe_imp h fun σ H Q ⟨Hs, av, env, k⟩ => ⟨Hs, av, env, fun v Hs1 H1 fp e1 o1 n1 => tq_data (envQ_ext e1 env) fun w Hs2 H2 e2 dw =>
    hr v w Hs2 H2 Q fp e2.sub (own_mono' e2.data e2.all o1) dw fun u fq o2 sub => k u Hs2 H2 fq (e1.trans e2) o2 fun a m => n1 a (sub a m)⟩
def subC (sa : FE) (sd : FD) : FE := fun ρ => bnz (sa ρ) fun r => match okk (sd ρ) with
  | some d => (subR r (.da d)).map .ok
  | none => none
theorem sa_sub {k : Nat} (hr : Room k X.A) (ha : SA X W a sa) (hb : SD X W b sd) (hs : PlainIx b := by exact (fun _ _ => rfl)) : SA X W (.Subscript a b pos) (subC sa sd) := by
  refine ⟨fun ρ x z => ?_, fun ρ cc z => ?_⟩
  · obtain ⟨r, q1, z⟩ := bnz_ok z
    split at z
    · rename_i d q2
      obtain ⟨x', h, z⟩ := map_some z
      cases z
      have qa := ha.ok _ _ q1
      have qb := hb.ok _ _ (okk_some q2)
      unfold subR at h
      split at h
      · rename_i ds i e2
        cases e2
        obtain ⟨y, h1, rfl⟩ := map_some h
        exact qa2_imp (pe_ix ix_tup qa qb hs) fun v w Hs H Q fp s o dw k => by
          obtain ⟨p, xs, rfl, q, rr⟩ := dp_tup (own_dp o)
          obtain ⟨u, hu, du⟩ := atI_dp rr h1
          rw [dp_int dw]
          exact ⟨p, xs, _, u, rfl, rfl, SqT.of (s _ _ q), hu, k u [] (.da du) (by simp)⟩
      · rename_i ds i e2
        cases e2
        obtain ⟨y, h1, rfl⟩ := map_some h
        exact qa2_imp (pe_ix ix_list qa qb hs) fun v w Hs H Q fp s o dw k => by
          obtain ⟨p, xs, rfl, q, rr⟩ := dp_lst (own_dp o)
          obtain ⟨u, hu, du⟩ := atI_dp rr h1
          rw [dp_int dw]
          exact ⟨p, xs, _, u, rfl, rfl, SqL.of (s _ _ q), hu, k u [] (.da du) (by simp)⟩
      · rename_i ds i e2
        cases e2
        obtain ⟨y, h1, rfl⟩ := map_some h
        exact qa2_imp (pe_ix ix_list qa qb hs) fun v w Hs H Q fp s o dw k => by
          cases o with
          | lst q rr =>
            obtain ⟨u, hu, du⟩ := atI_dp rr h1
            rw [dp_int dw]
            exact ⟨_, _, _, u, rfl, rfl, SqL.of q, hu, k u [] (.da du) (by simp)⟩
      · rename_i ns i e2
        cases e2
        obtain ⟨y, h1, rfl⟩ := map_some h
        exact qa2_imp (pe_ix ix_list qa qb hs) fun v w Hs H Q fp s o dw k => by
          cases o with
          | scr q =>
            rw [dp_int dw]
            exact ⟨_, _, _, .int y, rfl, rfl, s.seq q, by rw [atI_map, h1]; rfl, k _ [] (.da (.int _)) (by simp)⟩
      · rename_i z i e2
        cases e2
        split at h
        · rename_i hz
          obtain ⟨y, h1, rfl⟩ := map_some h
          exact qa2_imp (pe_ix ix_str qa qb hs) fun v w Hs H Q fp s o dw k => by
            rw [dp_int dw, dp_str (own_dp o)]
            exact ⟨_, _, y, rfl, rfl, hz, h1, k _ [] (.da (.str _)) (by simp)⟩
        · cases h
      · rename_i l kvs kk e2
        cases e2
        refine pe_imp (pe_dget (hu_of hr) qa qb hs) fun σ H Q ⟨Hs, av, env, k⟩ => ⟨Hs, av, env, fun v Hs1 H1 fp e1 o1 n1 => tq_data (envQ_ext e1 env) fun w Hs2 H2 e2 dw => ?_⟩
        cases own_mono' e2.data e2.all o1 with
        | dct h1 nk h2 =>
          obtain ⟨u, fpx, fpc, l, o, pm, _⟩ := ownK_foc h2 h
          rw [dp_str dw]
          exact ⟨_, u, rfl, .inl ⟨_, .inr kk, dctAt_rd h1, rfl, l.symm⟩, k u Hs2 H2 fpx (e1.trans e2) o fun a m => n1 a (by simp [pm.mem_iff, m])⟩
      · rename_i l kvs kk e2
        cases e2
        refine pe_imp (pe_dget (hu_of hr) qa qb hs) fun σ H Q ⟨Hs, av, env, k⟩ => ⟨Hs, av, env, fun v Hs1 H1 fp e1 o1 n1 => tq_data (envQ_ext e1 env) fun w Hs2 H2 e2 dw => ?_⟩
        cases own_mono' e2.data e2.all o1 with
        | dct h1 nk h2 =>
          obtain ⟨u, fpx, fpc, l, o, pm, _⟩ := ownK_foc h2 h
          rw [dp_int dw]
          exact ⟨_, u, rfl, .inl ⟨_, .inl kk, dctAt_rd h1, rfl, l.symm⟩, k u Hs2 H2 fpx (e1.trans e2) o fun a m => n1 a (by simp [pm.mem_iff, m])⟩
      · rename_i rs i e2
        cases e2
        obtain ⟨j, h1, h2⟩ := Option.bind_eq_some_iff.mp h
        exact qa2_imp (pe_ix ix_tup qa qb hs) fun v w Hs H Q fp s o dw k => by
          cases o with
          | tup q rr =>
            obtain ⟨u, fpx, fpc, l, o, pm, _⟩ := ownS_foc rr h2
            rw [dp_int dw]
            refine ⟨_, _, _, u, rfl, rfl, SqT.of q, ?_, k u fpx o fun a m => by simp [pm.mem_iff, m]⟩
            unfold atI
            rw [ownS_len rr, h1]
            exact l
      · rename_i rs i e2
        cases e2
        obtain ⟨j, h1, h2⟩ := Option.bind_eq_some_iff.mp h
        exact qa2_imp (pe_ix ix_list qa qb hs) fun v w Hs H Q fp s o dw k => by
          cases o with
          | lsr q rr =>
            obtain ⟨u, fpx, fpc, l, o, pm, _⟩ := ownS_foc rr h2
            rw [dp_int dw]
            refine ⟨_, _, _, u, rfl, rfl, SqL.of q, ?_, k u fpx o fun a m => by simp [pm.mem_iff, m]⟩
            unfold atI
            rw [ownS_len rr, h1]
            exact l
      · cases h
    · cases z
  · rcases bnz_ex z with q1 | ⟨d, q1, z⟩
    · exact pe_imp (pe_ix (r := fun _ _ _ _ => False) (fun _ _ _ _ _ _ _ _ _ _ _ _ _ _ h => h.elim) (ha.ex _ _ q1) (pe_never (e := b)) hs) fun σ H Q q => q
    · split at z
      · rename_i dd q2
        cases q : subR d (.da dd) <;> rw [q] at z <;> cases z
      · cases z
/-! ### len -/
def lenR : Rs → Option Int
  | .da (.tuple ds) => some ds.length
  | .da (.list ds) => some ds.length
  | .da (.str z) => if z.length ≤ sizeLine then some z.length else none
  | .lst ds => some ds.length
  | .scr ns => some ns.length
  | .dct _ kvs => some kvs.length
  | .tup rs => some rs.length
  | .lsr rs => some rs.length
  | _ => none
theorem call_lenA : CallR X (.builtin "len") (fun xs H Q => ∃ x n, xs = [x] ∧ (LenV X.K x H n ∨ ∃ a kvs, x = .ref a ∧ Rd H a (.dK kvs) ∧ n = kvs.length) ∧ Q (.int n) H) := by
  intro pins s σ H xs us Q I r h
  obtain ⟨x, n, rfl, h | ⟨a, kvs, rfl, hr, rfl⟩, q⟩ := h
  · exact call_len pins s σ H _ us Q I r ⟨x, n, rfl, h, q⟩
  · obtain ⟨u, rfl, ru⟩ := vals1 r
    cases ru
    exact d_len I hr fun t s' I' => ⟨.int kvs.length, H, I', ⟨t, rfl⟩, q⟩
theorem lenR_own {K : PySem.W.Frag} {Hs H : Hp} {v : V} {r : Rs} {n : Int} {fp : List Addr} (s : Same Hs H) (h : Own K .rdo Hs H v r fp) (hl : lenR r = some n) : ∃ m : Nat, n = m ∧ (LenV K v H m ∨ ∃ a kvs, v = .ref a ∧ Rd H a (.dK kvs) ∧ m = kvs.length) := by
  cases h with
  | un => cases hl
  | scr h => cases hl; exact ⟨_, rfl, .inl (.inl ⟨_, s.seq h, by simp⟩)⟩
  | da h =>
    cases h with
    | lst h1 h2 => cases hl; exact ⟨_, rfl, .inl (.inl ⟨_, SqL.of (s _ _ h1), (dpAll_length h2).symm⟩)⟩
    | tup h1 h2 => cases hl; exact ⟨_, rfl, .inl (.inr ⟨_, SqT.of (s _ _ h1), (dpAll_length h2).symm⟩)⟩
    | str z =>
      simp only [lenR] at hl
      split at hl
      · rename_i hz; cases hl; exact ⟨_, rfl, .inl ⟨hz, rfl⟩⟩
      · cases hl
    | _ => cases hl
  | lst h1 h2 => cases hl; exact ⟨_, rfl, .inl (.inl ⟨_, SqL.of h1, (dpAll_length h2).symm⟩)⟩
  | dct h1 nk h2 => cases hl; exact ⟨_, rfl, .inr ⟨_, _, rfl, dctAt_rd h1, (ownK_len h2).symm⟩⟩
  | dtt => cases hl
  | ins => cases hl
  | tup h1 h2 => cases hl; exact ⟨_, rfl, .inl (.inr ⟨_, SqT.of h1, (ownS_len h2).symm⟩)⟩
  | lsr h1 h2 => cases hl; exact ⟨_, rfl, .inl (.inl ⟨_, SqL.of h1, (ownS_len h2).symm⟩)⟩
/-- a built-in called upon one thing -/
theorem q_b1 {f : Str} {id : String} {r : List V → Hp → VK → Prop} {ρ : En} {r1 x : Rs} (hc : CallR X (.builtin id) r) (hg : Gl X f) (hm : X.mg f = none) (hv : bootBuiltins f = some (.builtin id)) (ha : QA X a ρ r1)
    (hr : ∀ v Hs H Q fp, Same Hs H → Own X.K .rdo Hs H v r1 fp → (∀ u Hs' H' fq, Ext Hs H Hs' H' → Own X.K (.own []) Hs' H' u x fq → fq.Nodup → (∀ a ∈ fq, H a = none ∧ Hs' a = none) → Q u H') → r [v] H Q)
    (hn : f ≠ "__name__" := by decide) (hdb : (f == ("__debug__" : Str)) = false := by decide) (he : starEach (a :: []) X.env = (false, eval a X.env) :: starEach [] X.env := by rfl) (hpl : (backTo pos (starEach [] X.env)).any (·.1) = false := by rfl) :
    QV X (.Call (.Name f pp) [a] [] pos) ρ x :=
  pe_imp (pe_callB hc hg hm hv (pa_cons ha pa_nil he) hn hdb he hpl) fun σ H Q ⟨Hs, av, env, k⟩ => ⟨Hs, av, env, fun v Hs1 H1 fp e1 o _ =>
    hr v Hs1 H1 Q fp e1.sub o fun u Hs2 H2 fq e2 o2 n2 f2 => k u Hs2 H2 fq (e1.trans e2) o2 n2 fun a m => ⟨e1.all.free (f2 a m).1, (f2 a m).2⟩⟩
theorem q_ty1 {f : Str} {id : String} {r : List V → Hp → VK → Prop} {ρ : En} {r1 x : Rs} (hc : CallR X (.type id) r) (hg : Gl X f) (hm : X.mg f = none) (hv : bootBuiltins f = some (.type id)) (ha : QA X a ρ r1)
    (hr : ∀ v Hs H Q fp, Same Hs H → Own X.K .rdo Hs H v r1 fp → (∀ u Hs' H' fq, Ext Hs H Hs' H' → Own X.K (.own []) Hs' H' u x fq → fq.Nodup → (∀ a ∈ fq, H a = none ∧ Hs' a = none) → Q u H') → r [v] H Q)
    (hn : f ≠ "__name__" := by decide) (hdb : (f == ("__debug__" : Str)) = false := by decide) (he : starEach (a :: []) X.env = (false, eval a X.env) :: starEach [] X.env := by rfl) (hpl : (backTo pos (starEach [] X.env)).any (·.1) = false := by rfl) :
    QV X (.Call (.Name f pp) [a] [] pos) ρ x :=
  pe_imp (pe_callTy hc hg hm hv (pa_cons ha pa_nil he) hn hdb he hpl) fun σ H Q ⟨Hs, av, env, k⟩ => ⟨Hs, av, env, fun v Hs1 H1 fp e1 o _ =>
    hr v Hs1 H1 Q fp e1.sub o fun u Hs2 H2 fq e2 o2 n2 f2 => k u Hs2 H2 fq (e1.trans e2) o2 n2 fun a m => ⟨e1.all.free (f2 a m).1, (f2 a m).2⟩⟩
theorem sv_len (hm : X.mg "len" = none) (ha : SA X W a sa) (hg : Gl X "len" := by rfl) (he : starEach (a :: []) X.env = (false, eval a X.env) :: starEach [] X.env := by rfl) (hpl : (backTo pos (starEach [] X.env)).any (·.1) = false := by rfl) :
    SV X W (.Call (.Name "len" pp) [a] [] pos) (op1 (fun r => (lenR r).map fun n => .da (.int n)) sa) :=
  sv_op1 ha fun ρ r x h q => by
    obtain ⟨n, h1, rfl⟩ := map_some h
    exact q_b1 call_lenA hg hm PySem.boot_len q (fun v Hs H Q fp s o k => by
      obtain ⟨m, rfl, hv⟩ := lenR_own s o h1
      exact ⟨v, m, rfl, hv, kdat s (.int _) k⟩) (by decide) (by decide) he hpl
/-! ### isinstance -/
def tynR : Rs → Option String
  | .da d => some (match d with
    | .none => "NoneType"
    | .bool _ => "bool"
    | .int _ => "int"
    | .str _ => "str"
    | .list _ => "list"
    | .tuple _ => "tuple"
    | .dict _ => "dict")
  | .lst _ => some "list"
  | _ => none
theorem tynR_own {K : PySem.W.Frag} {m : Mo} {Hs H : Hp} {v : V} {r : Rs} {n : String} {fp : List Addr} (s : Same Hs H) (h : Own K m Hs H v r fp) (hl : tynR r = some n) : TyX K H v (.type n) := by
  cases h with
  | da h =>
    cases h with
    | non => cases hl; exact .base .non
    | bl => cases hl; exact .base (.bl _)
    | int => cases hl; exact .base (.int _)
    | str => cases hl; exact .base (.str _)
    | lst h _ => cases hl; exact .base (.lst (s _ _ h))
    | tup h _ => cases hl; exact .base (.tup (s _ _ h))
  | lst h _ => cases hl; exact .base (.lst h)
  | _ => cases hl
def isiR (T : String) (r : Rs) : Option Rs := (tynR r).bind fun n => (kitB n T).map fun b => .da (.bool b)
theorem sv_isi {T : String} {n : Str} {p3 : Pos} (hm : X.mg "isinstance" = none) (hmn : X.mg n = none) (hv : bootBuiltins n = some (.type T)) (ha : SA X W a sa) (hg : Gl X "isinstance" := by rfl) (hgn : Gl X n := by rfl) (hn : n ≠ "__name__" := by decide) (hd : (n == ("__debug__" : Str)) = false := by decide)
    (he : starEach (a :: [.Name n p3]) X.env = (false, eval a X.env) :: starEach [.Name n p3] X.env := by rfl) (he2 : starEach (.Name n p3 :: []) X.env = (false, eval (.Name n p3) X.env) :: starEach [] X.env := by rfl) (hpl : (backTo pos (starEach [.Name n p3] X.env)).any (·.1) = false := by rfl) :
    SV X W (.Call (.Name "isinstance" pp) [a, .Name n p3] [] pos) (op1 (isiR T) sa) :=
  sv_op1 ha fun ρ r x h q => by
    obtain ⟨tn, h1, h2⟩ := Option.bind_eq_some_iff.mp h
    obtain ⟨b, h3, rfl⟩ := map_some h2
    exact pe_imp (pe_callB call_isi hg hm (by decide +kernel) (pa_cons q (pa_cons (pe_bltn (v := .ty T) hgn hmn hv rfl hn hd) pa_nil he2) he) (by decide) (by decide) he hpl) fun σ H Q ⟨Hs, av, env, k⟩ => ⟨Hs, av, env, fun v Hs1 H1 fp e1 o _ =>
      ⟨v, .ty T, _, _, b, rfl, .ty T, tynR_own e1.sub o h1, kit_ty h3, kdata k e1 (.bl _)⟩⟩
end
end Cg

/-! Calls that change nothing. -/
namespace Cg
open PySem L2
/-! ### what a def does: of the arguments' trees to a value or a refusal, and the trees behind it -/
inductive Rt where
  | ok (x : Rs) (ps : List Rs) | ex (c : Str) (ps : List Rs)
def sel : List Bool → List VR → List VR
  | true :: m, x :: l => x :: sel m l
  | false :: m, _ :: l => sel m l
  | _, _ => []
theorem sel_nil (l : List VR) : sel [] l = [] := by cases l <;> rfl
def spM (K : PySem.W.Frag) (mk : List Bool) (F : List Rs → Option Rt) : Sp := fun vs H Q E => ∃ Hs as fp o, Same Hs H ∧ NoD Hs ∧ vs.length = as.length ∧ OwnL K (.own []) Hs H (sel mk (vs.zip as)) fp ∧ fp.Nodup ∧ (∀ a ∈ fp, Hs a = none) ∧
  (∀ (i : Nat) v r, mk[i]? ≠ some true → vs[i]? = some v → as[i]? = some r → ∃ fq, Own K .rdo Hs H v r fq ∧ ∀ a ∈ fq, a ∉ fp) ∧ F as = some o ∧ match o with
    | .ok x ps => ∀ v Hs' H', Same Hs Hs' → St9 K ⟨Hs, H, (· ∈ fp), fun i => vs[i]?, [], []⟩ Hs' H' ((v, x) :: sel mk (vs.zip ps)) → Q v H'
    | .ex c ps => ∀ Hs' H', Same Hs Hs' → St9 K ⟨Hs, H, (· ∈ fp), fun i => vs[i]?, [], []⟩ Hs' H' (sel mk (vs.zip ps)) → E (clsV K c) none H'
/-- the def at f does as F tells -/
def Fq (P : Program) (w : World) (K : PySem.W.Frag) (mg : Str → Option Value) (base : Heap) (f : Addr) (k : Nat) (mk : List Bool) (F : List Rs → Option Rt) : Prop := ∃ fd ps, Binds K fd ps [] ∧ FnOk P w K mg base (L2.CX P w) k f fd ps (spM K mk F)
inductive OwnQ (K : PySem.W.Frag) (Hs H : Hp) (av : Addr → Prop) : List V → List Rs → Prop
  | nil : OwnQ K Hs H av [] []
  | cons {v : V} {r : Rs} {fp : List Addr} {vs : List V} {rs : List Rs} : Own K .rdo Hs H v r fp → (∀ a ∈ fp, ¬ av a) → OwnQ K Hs H av vs rs → OwnQ K Hs H av (v :: vs) (r :: rs)
section
variable {K : PySem.W.Frag} {Hs H Hs' H' : Hp} {av : Addr → Prop} {vs : List V} {rs : List Rs}
theorem ownQ_ext (e : Ext Hs H Hs' H') : ∀ {vs : List V} {rs : List Rs}, OwnQ K Hs H av vs rs → OwnQ K Hs' H' av vs rs
  | _, _, .nil => .nil
  | _, _, .cons h n t => .cons (own_mono' e.data e.all h) n (ownQ_ext e t)
theorem ownQ_len : ∀ {vs : List V} {rs : List Rs}, OwnQ K Hs H av vs rs → vs.length = rs.length
  | _, _, .nil => rfl
  | _, _, .cons h _ t => by simp [ownQ_len t]
theorem ownQ_get : ∀ {vs : List V} {rs : List Rs} {i : Nat} {v : V} {r : Rs}, OwnQ K Hs H av vs rs → vs[i]? = some v → rs[i]? = some r → ∃ fp, Own K .rdo Hs H v r fp ∧ ∀ a ∈ fp, ¬ av a
  | _, _, _, _, _, .nil, e, _ => by simp at e
  | _, _, 0, _, _, .cons h n t, e, e' => by simp at e e'; subst e; subst e'; exact ⟨_, h, n⟩
  | _, _, i + 1, _, _, .cons h n t, e, e' => ownQ_get (i := i) t (by simpa using e) (by simpa using e')
end
def tAs (K : PySem.W.Frag) (ρ : En) (rs : List Rs) : TA := fun σ H Q => ∃ Hs av, EnvQ K Hs H av σ ρ ∧ ∀ vs Hs' H', Ext Hs H Hs' H' → OwnQ K Hs' H' av vs rs → Q vs H'
structure SAs (X : Cx) (W : WX) (es : List Expr) (s : En → Option (Rz (List Rs))) : Prop where
  ok : ∀ ρ rs, s ρ = some (.ok rs) → PA X es (tAs X.K ρ rs)
  ex : ∀ ρ c, s ρ = some (.ex c) → PA X es (fun σ H _ => tX X.K W ρ c σ H fun _ _ => False)
section
variable {X : Cx} {W : WX} {e a b c o : Expr} {es rest : List Expr} {pos apos pp p2 : Pos} {s sa sb sc : FE} {ss : En → Option (Rz (List Rs))} {ρ : En}
def nilA : En → Option (Rz (List Rs)) := fun _ => some (.ok [])
def consA (sa : FE) (ss : En → Option (Rz (List Rs))) : En → Option (Rz (List Rs)) := fun ρ => bnz (sa ρ) fun r => bnz (ss ρ) fun rs => some (.ok (r :: rs))
theorem sas_nil : SAs X W [] nilA := ⟨fun ρ ds z => by cases z; exact pa_imp pa_nil fun σ H Q ⟨Hs, av, env, k⟩ => k [] Hs H (.refl env.sub) .nil, fun ρ c z => by cases z⟩
theorem sas_cons (h1 : SA X W e sa) (h2 : SAs X W es ss) (hs : starEach (e :: es) X.env = (false, eval e X.env) :: starEach es X.env := by rfl) : SAs X W (e :: es) (consA sa ss) := by
  refine ⟨fun ρ rs z => ?_, fun ρ cc z => ?_⟩
  · obtain ⟨r, q1, z⟩ := bnz_ok z
    obtain ⟨rs', q2, z⟩ := bnz_ok z
    cases z
    exact pa_imp (pa_cons (h1.ok _ _ q1) (h2.ok _ _ q2) hs) fun σ H Q ⟨Hs, av, env, k⟩ => ⟨Hs, av, env, fun v Hs1 H1 fp e1 o n => ⟨Hs1, av, envQ_ext e1 env, fun vs Hs2 H2 e2 os => k (v :: vs) Hs2 H2 (e1.trans e2) (.cons (own_mono' e2.data e2.all o) n os)⟩⟩
  · rcases bnz_ex z with q1 | ⟨d, q1, z⟩
    · exact pa_imp (pa_cons (h1.ex _ _ q1) (pa_never (es := es)) hs) fun σ H Q h => h
    · rcases bnz_ex z with q2 | ⟨d, q2, z⟩
      · exact pa_imp (pa_cons (h1.ok _ _ q1) (h2.ex _ _ q2) hs) fun σ H Q ⟨Hs, av, env, k⟩ => ⟨Hs, av, env, fun v Hs1 H1 fp e1 o n => ⟨Hs1, av, envQ_ext e1 env, fun Hs' H' e' => k Hs' H' (e1.trans e')⟩⟩
      · cases z
/-- a call that changes nothing: how its promise is kept -/
theorem spM_quiet {F : List Rs → Option Rt} {vs : List V} {rs : List Rs} {Hs H : Hp} {av : Addr → Prop} {Q : VK} {E : XK} {z : Rt} (s : Same Hs H) (nd : NoD Hs) (os : OwnQ X.K Hs H av vs rs) (hF : F rs = some z)
    (k : match z with
      | .ok x _ => ∀ v Hs' H' fp, Ext Hs H Hs' H' → Own X.K (.own []) Hs' H' v x fp → fp.Nodup → (∀ a ∈ fp, H a = none ∧ Hs' a = none) → Q v H'
      | .ex c _ => ∀ Hs' H', Ext Hs H Hs' H' → E (clsV X.K c) none H') : spM X.K [] F vs H Q E := by
  have ext : ∀ {Hs' H' : Hp} {L : List VR}, St9 X.K ⟨Hs, H, (· ∈ ([] : List Addr)), fun i => vs[i]?, [], []⟩ Hs' H' L → Ext Hs H Hs' H' := fun {Hs' H' L} h => ⟨h.data, fun a o e => h.keep a o e (by simp) (by simp), h.sub, fun a o e => by
    rcases h.new a o e with z | z | z
    · exact .inl z
    · exact .inr ⟨z, fun kv q => by subst q; exact h.nod a kv e⟩
    · exact absurd z (by simp)⟩
  refine ⟨Hs, rs, [], z, s, nd, ownQ_len os, by rw [sel_nil]; exact .nil, by simp, by simp, fun i v r _ h1 h2 => ?_, hF, ?_⟩
  · obtain ⟨fp, o, _⟩ := ownQ_get os h1 h2
    exact ⟨fp, o, by simp⟩
  · cases z with
    | ok x ps =>
      intro v Hs' H' _ h
      rw [sel_nil] at h
      obtain ⟨fp, o, n, f⟩ := h.own
      cases o with
      | cons o t =>
        cases t
        refine k v Hs' H' _ (ext h) o (by simpa using n) fun a m => ?_
        have := f a (by simp [m])
        exact ⟨this.2.elim id fun z => absurd z (by simp), this.1⟩
    | ex cn ps =>
      intro Hs' H' _ h
      exact k Hs' H' (ext h)
def callC (F : List Rs → Option Rt) (ss : En → Option (Rz (List Rs))) : FE := fun ρ => bnz (ss ρ) fun rs => match F rs with
  | some (.ok x _) => some (.ok x)
  | some (.ex c _) => some (.ex c)
  | none => none
theorem callC_ok {F : List Rs → Option Rt} {x : Rs} (h : callC F ss ρ = some (.ok x)) : ∃ rs ps, ss ρ = some (.ok rs) ∧ F rs = some (.ok x ps) := by
  obtain ⟨rs, q1, z⟩ := bnz_ok h
  split at z
  · rename_i q2; cases z; exact ⟨rs, _, q1, q2⟩
  · cases z
  · cases z
theorem callC_ex {F : List Rs → Option Rt} {cn : Str} (h : callC F ss ρ = some (.ex cn)) : ss ρ = some (.ex cn) ∨ ∃ rs ps, ss ρ = some (.ok rs) ∧ F rs = some (.ex cn ps) := by
  rcases bnz_ex h with q1 | ⟨rs, q1, z⟩
  · exact .inl q1
  · split at z
    · cases z
    · rename_i q2; cases z; exact .inr ⟨rs, _, q1, q2⟩
    · cases z
theorem sv_call {f : Str} {j k : Nat} {F : List Rs → Option Rt} (G : Fq X.prog X.w X.K X.mg X.base (He.ga X.K f) j [] F) (hm : X.mg f = some (.ref (He.ga X.K f))) (hk : PySem.W.keepIn X.K (.ref (He.ga X.K f)) = true) (hr : Room k X.A) (tk : Takes X W) (ha : SAs X W (e :: es) ss) (hj : j ≤ k := by decide) (hg : Gl X f := by rfl)
    (hdb : (f == ("__debug__" : Str)) = false := by decide) (he : starEach (e :: es) X.env = (false, eval e X.env) :: starEach es X.env := by rfl) (hpl : (backTo pos (starEach es X.env)).any (·.1) = false := by rfl) :
    SV X W (.Call (.Name f pp) (e :: es) [] pos) (callC F ss) := by
  obtain ⟨fd, ps, hb, G⟩ := G
  refine ⟨fun ρ x z => ?_, fun ρ cc z => ?_⟩
  · obtain ⟨rs, ps, q1, q2⟩ := callC_ok z
    exact pe_imp (pe_callS G (hr.mono hj) hg hm hk hb (fun σ => passAt tk σ) (ha.ok _ _ q1) hdb he hpl) fun σ H Q ⟨Hs, av, env, k⟩ => ⟨Hs, av, env, fun vs Hs1 H1 e1 os =>
      spM_quiet e1.sub (e1.noD env.nod) os q2 fun v Hs2 H2 fp e2 o n f => k v Hs2 H2 fp (e1.trans e2) o n fun a m => ⟨e1.all.free (f a m).1, (f a m).2⟩⟩
  · rcases callC_ex z with q1 | ⟨rs, ps, q1, q2⟩
    · exact pe_imp (pe_callS G (hr.mono hj) hg hm hk hb (fun σ => passAt tk σ) (ha.ex _ _ q1) hdb he hpl) fun σ H Q h => h
    · exact pe_imp (pe_callS G (hr.mono hj) hg hm hk hb (fun σ => passAt tk σ) (ha.ok _ _ q1) hdb he hpl) fun σ H Q ⟨Hs, av, env, k⟩ => ⟨Hs, av, env, fun vs Hs1 H1 e1 os =>
        spM_quiet e1.sub (e1.noD env.nod) os q2 fun Hs2 H2 e2 => k Hs2 H2 (e1.trans e2)⟩
theorem sv_call0 {f : Str} {j k : Nat} {F : List Rs → Option Rt} (G : Fq X.prog X.w X.K X.mg X.base (He.ga X.K f) j [] F) (hm : X.mg f = some (.ref (He.ga X.K f))) (hk : PySem.W.keepIn X.K (.ref (He.ga X.K f)) = true) (hr : Room k X.A) (hj : j ≤ k := by decide) (hg : Gl X f := by rfl)
    (hdb : (f == ("__debug__" : Str)) = false := by decide) : SV X W (.Call (.Name f pp) [] [] pos) (fun _ => match F [] with
      | some (.ok x _) => some (.ok x)
      | _ => none) := by
  obtain ⟨fd, ps, hb, G⟩ := G
  refine ⟨fun ρ x z => ?_, fun ρ cc z => ?_⟩
  · split at z
    · rename_i q2
      cases z
      refine pe_imp (pe_call0 G (hr.mono hj) hg hm hk hb .nil passL hdb) fun σ H Q ⟨Hs, av, env, k⟩ => ?_
      exact spM_quiet (X := X) env.sub env.nod (.nil (av := av)) q2 k
    · cases z
  · split at z <;> cases z
/-! ### methods -/
/-- o.m(e, ..), where what is raised is wished for at the caller's slots -/
theorem pe_methW {CX : CXT} {k : Nat} {f C : Addr} {fd : FuncData} {ps : List Str} {sp : Sp} {E : St → XK} {m : Str} {ta : TE} {t : TA} {pl : Sem Bool} (he : PE X o ta) (cl : Cls X.K C) (hm : Meth X.K C m f) (F : FnOk X.prog X.w X.K X.mg X.base CX k f fd ps sp) (hr : Room k X.A) (hb : Binds X.K fd ps [])
    (hx : ∀ σ, PassesAt CX X σ (E σ)) (ha : PA X (e :: es) t) (hst : starEach (e :: es) X.env = (false, eval e X.env) :: starEach es X.env := by rfl) (hpl : (backTo pos (starEach es X.env)).any (·.1) = false := by rfl)
    (ht : eval (.Call (.Attribute o m apos) (e :: es) [] pos) X.env = (do
        let ov ← eval o X.env
        standAt apos.atName
        let (g, fst) ← holding [ov] (getMethod ov m pl)
        callWith pos g fst (backTo pos (starEach (e :: es) X.env)) (backToKw pos (keywordEach [] X.env))) := by rfl) :
    PE X (.Call (.Attribute o m apos) (e :: es) [] pos) (fun σ H Q => ta σ H fun x H1 => ∃ a dx fs, x = .ref a ∧ H1 a = some (.ins C dx fs) ∧ fs.lookup m = none ∧ t σ H1 fun vs H2 => sp (x :: vs) H2 Q (E σ)) :=
  ⟨fun pins s σ H Q I h => PySem.W.methodCall_KW (pl := pl) (thn (he.run pins s σ H _ I h) fun u s1 ⟨x, H1, I1, rx, a, dx, fs, ex, ea, l, q⟩ => by
    subst ex
    have eu : u = Value.ref a := rx
    subst eu
    exact getmeth_ok I1 ea cl hm l (PySem.W.callWith_K (first := [.ref a]) (h₀ := X.base) I.ok.mod.kin hm.kp (thn (ha.run pos pins s1 σ H1 _ I1 q) fun us s2 ⟨vs, H2, I2, r, q2⟩ =>
      ⟨I2.kIn, run_fnS (us := .ref a :: us) (vs := .ref a :: vs) F hr hb (hx σ) I2 (.cons rfl r) q2⟩) hst hpl)) ht⟩
theorem pe_methW0 {CX : CXT} {k : Nat} {f C : Addr} {fd : FuncData} {ps : List Str} {sp : Sp} {E : St → XK} {m : Str} {ta : TE} {pl : Sem Bool} (he : PE X o ta) (cl : Cls X.K C) (hm : Meth X.K C m f) (F : FnOk X.prog X.w X.K X.mg X.base CX k f fd ps sp) (hr : Room k X.A) (hb : Binds X.K fd ps [])
    (hx : ∀ σ, PassesAt CX X σ (E σ)) (ht : eval (.Call (.Attribute o m apos) [] [] pos) X.env = (do
        let ov ← eval o X.env
        standAt apos.atName
        let (g, fst) ← holding [ov] (getMethod ov m pl)
        callWith pos g fst (backTo pos (starEach [] X.env)) (backToKw pos (keywordEach [] X.env))) := by rfl) :
    PE X (.Call (.Attribute o m apos) [] [] pos) (fun σ H Q => ta σ H fun x H1 => ∃ a dx fs, x = .ref a ∧ H1 a = some (.ins C dx fs) ∧ fs.lookup m = none ∧ sp [x] H1 Q (E σ)) :=
  ⟨fun pins s σ H Q I h => PySem.W.methodCall_KW (pl := pl) (thn (he.run pins s σ H _ I h) fun u s1 ⟨x, H1, I1, rx, a, dx, fs, ex, ea, l, q⟩ => by
    subst ex
    have eu : u = Value.ref a := rx
    subst eu
    exact getmeth_ok I1 ea cl hm l (PySem.W.callWith_K0 (first := [.ref a]) I1.kIn hm.kp (run_fnS (us := [.ref a]) (vs := [.ref a]) F hr hb (hx σ) I1 (.cons rfl .nil) q))) ht⟩
/-- the receiver's class -/
def isC (cn m : Str) : Rs → Bool
  | .ins c fs => decide (c = cn) && (fs.lookup m).isNone
  | _ => false
def methC (cn m : Str) (F : List Rs → Option Rt) (sa : FE) (ss : En → Option (Rz (List Rs))) : FE := fun ρ => bnz (sa ρ) fun r => if isC cn m r then bnz (ss ρ) fun rs => match F (r :: rs) with
  | some (.ok x _) => some (.ok x)
  | some (.ex c _) => some (.ex c)
  | none => none
  else none
theorem isC_own {K : PySem.W.Frag} {md : Mo} {Hs H : Hp} {v : V} {r : Rs} {fp : List Addr} {cn m : Str} (hc : isC cn m r = true) (o : Own K md Hs H v r fp) : ∃ a dx fs, v = .ref a ∧ H a = some (.ins (He.ga K cn) dx fs) ∧ fs.lookup m = none := by
  cases o with
  | ins h1 h2 =>
    obtain ⟨z1, z2⟩ := Bool.and_eq_true_iff.mp hc
    have z1 := of_decide_eq_true z1
    subst z1
    exact ⟨_, _, _, rfl, h1, ownF_none h2 (Option.isNone_iff_eq_none.mp z2)⟩
  | _ => cases hc
theorem sv_meth {cn m : Str} {j k : Nat} {F : List Rs → Option Rt} {pl : Sem Bool} (G : Fq X.prog X.w X.K X.mg X.base (He.ma X.K (He.ga X.K cn) m) j [] F) (cl : Cls X.K (He.ga X.K cn)) (hm : Meth X.K (He.ga X.K cn) m (He.ma X.K (He.ga X.K cn) m)) (hr : Room k X.A) (tk : Takes X W) (ho : SA X W o sa) (ha : SAs X W (e :: es) ss) (hj : j ≤ k := by decide)
    (hst : starEach (e :: es) X.env = (false, eval e X.env) :: starEach es X.env := by rfl) (hpl : (backTo pos (starEach es X.env)).any (·.1) = false := by rfl)
    (ht : eval (.Call (.Attribute o m apos) (e :: es) [] pos) X.env = (do
        let ov ← eval o X.env
        standAt apos.atName
        let (g, fst) ← holding [ov] (getMethod ov m pl)
        callWith pos g fst (backTo pos (starEach (e :: es) X.env)) (backToKw pos (keywordEach [] X.env))) := by rfl) :
    SV X W (.Call (.Attribute o m apos) (e :: es) [] pos) (methC cn m F sa ss) := by
  obtain ⟨fd, ps, hb, G⟩ := G
  refine ⟨fun ρ x z => ?_, fun ρ cc z => ?_⟩
  · obtain ⟨r, q1, z⟩ := bnz_ok z
    split at z
    · rename_i hc
      obtain ⟨rs, q2, z⟩ := bnz_ok z
      split at z
      · rename_i q3
        cases z
        refine pe_imp (pe_methW (ho.ok _ _ q1) cl hm G (hr.mono hj) hb (fun σ => passAt tk σ) (ha.ok _ _ q2) hst hpl ht) fun σ H Q ⟨Hs, av, env, k⟩ => ⟨Hs, av, env, fun v Hs1 H1 fp e1 o1 n1 => ?_⟩
        obtain ⟨a, dx, fs, rfl, h1, h2⟩ := isC_own hc o1
        exact ⟨a, dx, fs, rfl, h1, h2, Hs1, av, envQ_ext e1 env, fun vs Hs2 H2 e2 os => spM_quiet e2.sub ((e1.trans e2).noD env.nod) (.cons (own_mono' e2.data e2.all o1) n1 os) q3 fun v Hs3 H3 fp e3 o n f => k v Hs3 H3 fp ((e1.trans e2).trans e3) o n fun a m => ⟨(e1.trans e2).all.free (f a m).1, (f a m).2⟩⟩
      · cases z
      · cases z
    · cases z
  · rcases bnz_ex z with q1 | ⟨r, q1, z⟩
    · exact pe_imp (pe_methW (ho.ex _ _ q1) cl hm G (hr.mono hj) hb (fun σ => passAt tk σ) (pa_never (es := e :: es)) hst hpl ht) fun σ H Q h => h
    · split at z
      · rename_i hc
        rcases bnz_ex z with q2 | ⟨rs, q2, z⟩
        · refine pe_imp (pe_methW (ho.ok _ _ q1) cl hm G (hr.mono hj) hb (fun σ => passAt tk σ) (ha.ex _ _ q2) hst hpl ht) fun σ H Q ⟨Hs, av, env, k⟩ => ⟨Hs, av, env, fun v Hs1 H1 fp e1 o1 n1 => ?_⟩
          obtain ⟨a, dx, fs, rfl, h1, h2⟩ := isC_own hc o1
          exact ⟨a, dx, fs, rfl, h1, h2, Hs1, av, envQ_ext e1 env, fun Hs' H' e' => k Hs' H' (e1.trans e')⟩
        · split at z
          · cases z
          · rename_i q3
            cases z
            refine pe_imp (pe_methW (ho.ok _ _ q1) cl hm G (hr.mono hj) hb (fun σ => passAt tk σ) (ha.ok _ _ q2) hst hpl ht) fun σ H Q ⟨Hs, av, env, k⟩ => ⟨Hs, av, env, fun v Hs1 H1 fp e1 o1 n1 => ?_⟩
            obtain ⟨a, dx, fs, rfl, h1, h2⟩ := isC_own hc o1
            exact ⟨a, dx, fs, rfl, h1, h2, Hs1, av, envQ_ext e1 env, fun vs Hs2 H2 e2 os => spM_quiet e2.sub ((e1.trans e2).noD env.nod) (.cons (own_mono' e2.data e2.all o1) n1 os) q3 fun Hs3 H3 e3 => k Hs3 H3 ((e1.trans e2).trans e3)⟩
          · cases z
      · cases z
theorem sv_meth0 {cn m : Str} {j k : Nat} {F : List Rs → Option Rt} {pl : Sem Bool} (G : Fq X.prog X.w X.K X.mg X.base (He.ma X.K (He.ga X.K cn) m) j [] F) (cl : Cls X.K (He.ga X.K cn)) (hm : Meth X.K (He.ga X.K cn) m (He.ma X.K (He.ga X.K cn) m)) (hr : Room k X.A) (tk : Takes X W) (ho : SA X W o sa) (hj : j ≤ k := by decide)
    (ht : eval (.Call (.Attribute o m apos) [] [] pos) X.env = (do
        let ov ← eval o X.env
        standAt apos.atName
        let (g, fst) ← holding [ov] (getMethod ov m pl)
        callWith pos g fst (backTo pos (starEach [] X.env)) (backToKw pos (keywordEach [] X.env))) := by rfl) :
    SV X W (.Call (.Attribute o m apos) [] [] pos) (methC cn m F sa nilA) := by
  obtain ⟨fd, ps, hb, G⟩ := G
  refine ⟨fun ρ x z => ?_, fun ρ cc z => ?_⟩
  · obtain ⟨r, q1, z⟩ := bnz_ok z
    split at z
    · rename_i hc
      obtain ⟨rs, q2, z⟩ := bnz_ok z
      cases q2
      split at z
      · rename_i q3
        cases z
        refine pe_imp (pe_methW0 (ho.ok _ _ q1) cl hm G (hr.mono hj) hb (fun σ => passAt tk σ) ht) fun σ H Q ⟨Hs, av, env, k⟩ => ⟨Hs, av, env, fun v Hs1 H1 fp e1 o1 n1 => ?_⟩
        obtain ⟨a, dx, fs, rfl, h1, h2⟩ := isC_own hc o1
        exact ⟨a, dx, fs, rfl, h1, h2, spM_quiet e1.sub (e1.noD env.nod) (.cons o1 n1 .nil) q3 fun v Hs3 H3 fp e3 o n f => k v Hs3 H3 fp (e1.trans e3) o n fun a m => ⟨e1.all.free (f a m).1, (f a m).2⟩⟩
      · cases z
      · cases z
    · cases z
  · rcases bnz_ex z with q1 | ⟨r, q1, z⟩
    · exact pe_imp (pe_methW0 (ho.ex _ _ q1) cl hm G (hr.mono hj) hb (fun σ => passAt tk σ) ht) fun σ H Q h => h
    · split at z
      · rename_i hc
        rcases bnz_ex z with q2 | ⟨rs, q2, z⟩
        · cases q2
        · cases q2
          split at z
          · cases z
          · rename_i q3
            cases z
            refine pe_imp (pe_methW0 (ho.ok _ _ q1) cl hm G (hr.mono hj) hb (fun σ => passAt tk σ) ht) fun σ H Q ⟨Hs, av, env, k⟩ => ⟨Hs, av, env, fun v Hs1 H1 fp e1 o1 n1 => ?_⟩
            obtain ⟨a, dx, fs, rfl, h1, h2⟩ := isC_own hc o1
            exact ⟨a, dx, fs, rfl, h1, h2, spM_quiet e1.sub (e1.noD env.nod) (.cons o1 n1 .nil) q3 fun Hs3 H3 e3 => k Hs3 H3 (e1.trans e3)⟩
          · cases z
      · cases z
/-! ### a new thing of an own class -/
def mkC (cn : Str) (F : List Rs → Option Rt) (ss : En → Option (Rz (List Rs))) : FE := fun ρ => match okk (ss ρ) with
  | some rs => (match F (.ins cn [] :: rs) with
    | some (.ok (.da .none) (r :: _)) => some (.ok r)
    | _ => none)
  | none => none
theorem spM_make {cn : Str} {F : List Rs → Option Rt} {mk : List Bool} {vs : List V} {rs ps : List Rs} {r : Rs} {Hs H : Hp} {av : Addr → Prop} {Q : VK} {E : XK} {x dx : Addr} (s : Same Hs H) (nd : NoD Hs) (os : OwnQ X.K Hs H av vs rs) (hmk : mk = [true]) (hF : F (.ins cn [] :: rs) = some (.ok (.da .none) (r :: ps)))
    (nx : H x = none) (ndx : H dx = none) (ne : dx ≠ x)
    (k : ∀ v Hs' H' fp, Ext Hs H Hs' H' → Own X.K (.own []) Hs' H' v r fp → fp.Nodup → (∀ a ∈ fp, H a = none ∧ Hs' a = none) → Q v H') : spM X.K mk F (.ref x :: vs) (upd (upd H dx (.own x)) x (.ins (He.ga X.K cn) dx [])) (fun v H2 => v = .non ∧ Q (.ref x) H2) E := by
  subst hmk
  have sH : Same H (upd (upd H dx (.own x)) x (.ins (He.ga X.K cn) dx [])) := (same_upd ndx).trans (same_upd (by rw [upd_ne (Ne.symm ne)]; exact nx))
  refine ⟨Hs, .ins cn [] :: rs, [x], .ok (.da .none) (r :: ps), s.trans sH, nd, by simp [ownQ_len os], ?_, by simp, fun a m => ?_, fun i v r' hi h1 h2 => ?_, hF, ?_⟩
  · exact .cons (fps := []) (.ins (fp := []) upd_same .nil) .nil
  · have z : a = x := by simpa using m
    subst z; exact s.free nx
  · cases i with
    | zero => exact absurd rfl hi
    | succ i =>
      obtain ⟨fp, o, _⟩ := ownQ_get (i := i) os (by simpa using h1) (by simpa using h2)
      refine ⟨fp, own_mono' (.refl _) sH o, fun a m z => ?_⟩
      have z : a = x := by simpa using z
      subst z
      obtain ⟨u, q⟩ := own_there o a m
      rw [nx] at q; cases q
  · intro v Hs' H' _ h
    have hv : v = .non := dp_none (st_dp h)
    refine ⟨hv, ?_⟩
    obtain ⟨fp, o, n, f⟩ := (st_tail h).own
    cases o with
    | cons o t =>
      cases t
      have ext : Ext Hs H Hs' H' := ⟨h.data, fun a o e => h.keep a o (sH _ _ e) (fun z => by
        have z : a = x := by simpa using z
        subst z; rw [nx] at e; cases e) (by simp), h.sub, fun a o e => by
        rcases h.new a o e with z | z | z
        · exact .inl z
        · exact .inr ⟨sH.free z, fun kv q => by subst q; exact h.nod a kv e⟩
        · have z : a = x := by simpa using z
          subst z; exact .inr ⟨nx, fun kv q => by subst q; exact h.nod _ kv e⟩⟩
      refine k _ Hs' H' _ ext o (by simpa using n) fun a m => ?_
      have := f a (by simp [m])
      refine ⟨this.2.elim (fun z => sH.free z) fun z => ?_, this.1⟩
      have z : a = x := by simpa using z
      subst z; exact nx
theorem sv_make {cn : Str} {j k : Nat} {F : List Rs → Option Rt} (M : Mk X.K (He.ga X.K cn) (He.ma X.K (He.ga X.K cn) "__init__")) (G : Fq X.prog X.w X.K X.mg X.base (He.ma X.K (He.ga X.K cn) "__init__") j [true] F) (hm : X.mg cn = some (.ref (He.ga X.K cn))) (hr : Room k X.A) (ha : SAs X W (e :: es) ss) (hj : j + 1 ≤ k := by decide) (hg : Gl X cn := by rfl)
    (hdb : (cn == ("__debug__" : Str)) = false := by decide) (he : starEach (e :: es) X.env = (false, eval e X.env) :: starEach es X.env := by rfl) (hpl : (backTo pos (starEach es X.env)).any (·.1) = false := by rfl) :
    SV X W (.Call (.Name cn pp) (e :: es) [] pos) (mkC cn F ss) := by
  obtain ⟨fd, ps, hb, G⟩ := G
  refine ⟨fun ρ x z => ?_, fun ρ cc z => ?_⟩ <;> unfold mkC at z <;> split at z
  · rename_i rs q1
    split at z
    · rename_i q2
      cases z
      refine pe_imp (pe_make M G (hr.mono hj) hg hm hb .nil (E := E0) passL (ha.ok _ _ (okk_some q1)) hdb he hpl) fun σ H Q ⟨Hs, av, env, k⟩ => ⟨Hs, av, env, fun vs Hs1 H1 e1 os x dx nx ndx ne => ?_⟩
      rw [List.append_nil]
      exact spM_make e1.sub (e1.noD env.nod) os rfl q2 nx ndx ne fun v Hs2 H2 fp e2 o n f => k v Hs2 H2 fp (e1.trans e2) o n fun a m => ⟨e1.all.free (f a m).1, (f a m).2⟩
    · cases z
  · cases z
  · split at z <;> cases z
  · cases z
theorem sv_make0 {cn : Str} {j k : Nat} {F : List Rs → Option Rt} (M : Mk X.K (He.ga X.K cn) (He.ma X.K (He.ga X.K cn) "__init__")) (G : Fq X.prog X.w X.K X.mg X.base (He.ma X.K (He.ga X.K cn) "__init__") j [true] F) (hm : X.mg cn = some (.ref (He.ga X.K cn))) (hr : Room k X.A) (hj : j + 1 ≤ k := by decide) (hg : Gl X cn := by rfl)
    (hdb : (cn == ("__debug__" : Str)) = false := by decide) : SV X W (.Call (.Name cn pp) [] [] pos) (mkC cn F nilA) := by
  obtain ⟨fd, ps, hb, G⟩ := G
  refine ⟨fun ρ x z => ?_, fun ρ cc z => ?_⟩ <;> unfold mkC at z <;> split at z
  · rename_i rs q1
    cases q1
    split at z
    · rename_i q2
      cases z
      refine pe_imp (pe_make0 M G (hr.mono hj) hg hm hb .nil (E := E0) passL hdb) fun σ H Q ⟨Hs, av, env, k⟩ x dx nx ndx ne => ?_
      exact spM_make (X := X) (av := av) env.sub env.nod .nil rfl q2 nx ndx ne k
    · cases z
  · cases z
  · split at z <;> cases z
  · cases z
end
end Cg

/-! Runs that change a part; places; statements. -/
namespace Cg
open PySem L2
def TkSub (a b : List Lk) : Prop := ∀ (n : Nat) p, a[n]? = some p → b[n]? = some p
section
variable {K : PySem.W.Frag} {mk : List Bool} {g : Gh} {Hs Hs' H H' : Hp} {T T' P M L : List VR} {σ : St} {ρ : En}
theorem ownL_split {m : Mo} : ∀ {L M : List VR} {fp : List Addr}, OwnL K m Hs H (L ++ M) fp → ∃ f1 f2, OwnL K m Hs H L f1 ∧ OwnL K m Hs H M f2 ∧ fp = f1 ++ f2 := by
  intro L
  induction L with
  | nil => intro M fp h; exact ⟨[], fp, .nil, h, rfl⟩
  | cons x L ih =>
    intro M fp h
    cases h with
    | cons o t =>
      obtain ⟨f1, f2, a, b, rfl⟩ := ih t
      exact ⟨_, f2, .cons o a, b, by rw [List.append_assoc]⟩
theorem ownL_tk {a b : List Lk} (s : TkSub a b) {L : List VR} {fp : List Addr} (h : OwnL K (.own a) Hs H L fp) : OwnL K (.own b) Hs H L fp :=
  ownL_map (P := fun _ => True) (m' := .own b) (H' := H) (.refl _) (fun n c kv _ q => by
    cases n with
    | zero => exact q
    | succ n => obtain ⟨o, h1, h2⟩ := q; exact ⟨o, s _ _ h1, h2⟩) (fun _ _ _ e _ => e) h fun _ _ => trivial
theorem st_run (h : St9 K g Hs H (L ++ (P ++ T))) : ∃ fpL fpP fpT, OwnL K (.own []) Hs H L fpL ∧ OwnL K (.own []) Hs H P fpP ∧ OwnL K (.own []) Hs H T fpT ∧ (fpL ++ (fpP ++ fpT)).Nodup ∧ (∀ a ∈ fpL ++ (fpP ++ fpT), Hs a = none ∧ (g.H0 a = none ∨ g.W a)) ∧
    ∀ (vs : Nat → Option V) (Hs' H' : Hp) (M : List VR) (tk : List Lk), TkSub tk g.tk → St9 K ⟨Hs, H, (· ∈ fpP), vs, tk, []⟩ Hs' H' M → St9 K g Hs' H' (L ++ (M ++ T)) ∧ ∀ a, a ∉ fpP → ∀ o, H a = some o → H' a = some o := by
  obtain ⟨fp, ow, n, f⟩ := h.own
  obtain ⟨fpL, f2, oL, o2, rfl⟩ := ownL_split ow
  obtain ⟨fpP, fpT, oP, oT, rfl⟩ := ownL_split o2
  refine ⟨fpL, fpP, fpT, oL, oP, oT, n, f, fun vs Hs' H' M tk s h' => ?_⟩
  have keep : ∀ a, a ∉ fpP → ∀ o, H a = some o → H' a = some o := fun a na o e => h'.keep a o e na (by simp)
  refine ⟨?_, keep⟩
  obtain ⟨nL, nPT, dL⟩ := List.nodup_append.mp n
  obtain ⟨nP, nT, dP⟩ := List.nodup_append.mp nPT
  have outL : ∀ a ∈ fpL, a ∉ fpP := fun a m m' => dL a m a (by simp [m']) rfl
  have outT : ∀ a ∈ fpT, a ∉ fpP := fun a m m' => dP a m' a m rfl
  obtain ⟨fpM, oM, nM, fM⟩ := h'.own
  have newM : ∀ a ∈ fpM, H a = none ∨ a ∈ fpP := fun a m => (fM a m).2
  have hsN : ∀ a, a ∈ fpL ∨ a ∈ fpT → Hs' a = none := fun a m => by
    have ha : a ∉ fpP ∧ ∃ o, H a = some o := by
      rcases m with m | m
      · exact ⟨outL a m, ownL_there oL a m⟩
      · exact ⟨outT a m, ownL_there oT a m⟩
    have hs0 : Hs a = none := by
      rcases m with m | m
      · exact (f a (by simp [m])).1
      · exact (f a (by simp [m])).1
    cases q : Hs' a with
    | none => rfl
    | some o =>
      rcases h'.new a o q with z | z | z
      · have z' : Hs a = some o := z
        rw [hs0] at z'; cases z'
      · have z' : H a = none := z
        obtain ⟨_, o', e⟩ := ha
        rw [e] at z'; cases z'
      · exact absurd z ha.1
  refine ⟨h'.sub, h'.nod, ⟨fpL ++ (fpM ++ fpT), ownL_app (ownL_mono h'.data oL fun a m o e => keep a (outL a m) o e) (ownL_app oM (ownL_mono h'.data oT fun a m o e => keep a (outT a m) o e)), ?_, fun a m => ?_⟩, h.data.trans h'.data, fun a o z => ?_, fun a o z w l => ?_, fun p hp => ?_⟩
  · have disM : ∀ a ∈ fpM, a ∉ fpL ∧ a ∉ fpT := fun a m => by
      rcases newM a m with z | z
      · refine ⟨fun q => ?_, fun q => ?_⟩
        · obtain ⟨o, e⟩ := ownL_there oL a q; rw [z] at e; cases e
        · obtain ⟨o, e⟩ := ownL_there oT a q; rw [z] at e; cases e
      · exact ⟨fun q => outL a q z, fun q => outT a q z⟩
    refine List.nodup_append.mpr ⟨nL, List.nodup_append.mpr ⟨nM, nT, fun a m b m' e => ?_⟩, fun a m b m' e => ?_⟩
    · subst e; exact (disM a m).2 m'
    · subst e
      rcases List.mem_append.mp m' with q | q
      · exact (disM a q).1 m
      · exact dL a m a (by simp [q]) rfl
  · rcases List.mem_append.mp m with m | m
    · exact ⟨hsN a (.inl m), (f a (by simp [m])).2⟩
    · rcases List.mem_append.mp m with m | m
      · refine ⟨(fM a m).1, ?_⟩
        rcases newM a m with z | z
        · exact h.free z
        · exact (f a (by simp [z])).2
      · exact ⟨hsN a (.inr m), (f a (by simp [m])).2⟩
  · rcases h'.new a o z with y | y | y
    · exact h.new a o y
    · exact .inr (h.free y)
    · exact .inr (f a (by simp [show a ∈ fpP from y])).2
  · refine keep a (fun m => ?_) o (h.keep a o z w l)
    rcases (f a (by simp [m])).2 with q | q
    · rw [z] at q; cases q
    · exact w q
  · obtain ⟨kv, a1, a2, a3⟩ := h.keepL p hp
    refine ⟨kv, a1, a2, keep _ (fun m => ?_) _ a3⟩
    rcases (f p.1 (by simp [m])).2 with q | q
    · rw [a1] at q; cases q
    · exact a2 q
/-- the parts P are handed to a run -/
theorem env_run (e : EnvAt K mk g Hs H (P ++ T) σ (clA ρ)) : ∃ fpP, OwnL K (.own []) Hs H P fpP ∧ fpP.Nodup ∧ (∀ a ∈ fpP, Hs a = none) ∧ EnvQ K Hs H (· ∈ fpP) σ (clA ρ) ∧
    ∀ (vs : Nat → Option V) (Hs' H' : Hp) (M : List VR) (tk : List Lk), TkSub tk g.tk → St9 K ⟨Hs, H, (· ∈ fpP), vs, tk, []⟩ Hs' H' M → EnvAt K mk g Hs' H' (M ++ T) σ (clA ρ) ∧
      ∀ (i : Nat) (v u : V) (π : List Pe) (r x : Rs), σ[i]? = some (some v) → (clA ρ)[i]? = some (.ow r) → getP r π = some x → Way H v π u → Way H' v π u := by
  obtain ⟨L, sl, h⟩ := id e.st
  obtain ⟨fpL, fpP, fpT, oL, oP, oT, n, f, run⟩ := st_run h
  obtain ⟨nL, nPT, dL⟩ := List.nodup_append.mp n
  have outL : ∀ a ∈ fpL, a ∉ fpP := fun a m m' => dL a m a (by simp [m']) rfl
  have q0 := env_q e
  have slotfp : ∀ (i : Nat) (r : Rs), (clA ρ)[i]? = some (.ow r) → ∃ v fp, σ[i]? = some (some v) ∧ Own K (.own []) Hs H v r fp ∧ ∀ a ∈ fp, a ∈ fpL := fun i r hi => by
    obtain ⟨v, L1, L2, a, rfl, _⟩ := sl_get sl hi
    obtain ⟨fp', o', pm⟩ := ownL_perm (List.perm_middle (a := (v, r)) (l₁ := L1) (l₂ := L2)) oL
    cases o' with
    | cons o t => exact ⟨v, _, a, o, fun b m => pm.mem_iff.mpr (by simp [m])⟩
  refine ⟨fpP, oP, (List.nodup_append.mp nPT).1, fun a m => (f a (by simp [m])).1, ⟨q0.sub, q0.nod, fun a m => ownL_there oP a m, fun i r hi => ?_, q0.als⟩, fun vs Hs' H' M tk s h' => ?_⟩
  · unfold trOf at hi
    split at hi
    · rename_i r' q
      cases hi
      obtain ⟨v, fp, a, o, sub⟩ := slotfp i r q
      exact ⟨v, fp, a, own_rd o, fun b m => outL b (sub b m)⟩
    · rename_i r' q
      cases hi
      obtain ⟨v, fp, a, o, w⟩ := e.bor i _ q
      refine ⟨v, fp, a, bo_now h o w, fun b m z => ?_⟩
      obtain ⟨u, e'⟩ := own_there o b m
      rcases (f b (by simp [z])).2 with y | y
      · rw [e'] at y; cases y
      · exact w b m y
    · rename_i j π q
      split at hi
      · rename_i r2 q2
        obtain ⟨v, u, a, w, b⟩ := e.als i j π q
        obtain ⟨v', fp, a', o, sub⟩ := slotfp j r2 q2
        rw [a] at a'; cases a'
        obtain ⟨u2, fpx, fpc, w2, ox, pm, _⟩ := own_way o hi
        have := way_inj w w2
        subst this
        exact ⟨u, fpx, b, own_rd ox, fun c m => outL c (sub c (by simp [pm.mem_iff, m]))⟩
      · cases hi
    · cases hi
  · obtain ⟨h2, keep⟩ := run vs Hs' H' M tk s h'
    refine ⟨?_, fun i v u π r x hv hi hg hw => ?_⟩
    · refine env_heap (T' := M ++ T) e fun L' h3 => ?_
      obtain ⟨fpL', fpP', fpT', oL', oP', oT', n', f', run'⟩ := st_run h3
      have same : fpP' = fpP ∨ True := .inr trivial
      refine ⟨?_, fun fp oo => ⟨h'.data, fun nn ff a m o e' => ?_⟩⟩
      · -- the run's own part is the same set of addresses
        obtain ⟨_, nPT', _⟩ := List.nodup_append.mp n'
        have mem : ∀ a, a ∈ fpP' ↔ a ∈ fpP := fun a => ownL_fp oP' oP a
        have h4 : St9 K ⟨Hs, H, (· ∈ fpP'), vs, tk, []⟩ Hs' H' M :=
          ⟨h'.sub, h'.nod, let ⟨fq, a1, a2, a3⟩ := h'.own; ⟨fq, a1, a2, fun b m => ⟨(a3 b m).1, (a3 b m).2.imp id fun z => (mem b).mpr z⟩⟩, h'.data, fun b o z => (h'.new b o z).imp id fun y => y.imp id fun w => (mem b).mpr w,
            fun b o z w l => h'.keep b o z (fun y => w ((mem b).mpr y)) l, fun p hp => absurd hp (by simp)⟩
        exact (run' vs Hs' H' M tk s h4).1
      · refine keep a (fun z => ?_) o e'
        have mm : a ∈ fpP' := (ownL_fp oP' oP a).mpr z
        have m2 : a ∈ fpL' := (ownL_fp oL' oo a).mpr m
        exact (List.nodup_append.mp n').2.2 a m2 a (by simp [mm]) rfl
    · obtain ⟨v', fp, a', o, sub⟩ := slotfp i r hi
      rw [hv] at a'; cases a'
      obtain ⟨u2, fpx, fpc, w2, ox, pm, close⟩ := own_way o hg
      have := way_inj hw w2
      subst this
      exact (close Hs' H' .un [] h'.data (fun b m z e' => keep b (outL b (sub b (by simp [pm.mem_iff, m]))) z e') .un).1
end
end Cg

/-! Expressions with effects; statements. -/
namespace Cg
open PySem L2
def tEv (K : PySem.W.Frag) (mk : List Bool) (ρ : En) (x : Rs) (ρ1 : En) : TE := fun σ H Q => ∃ g Hs T, EnvAt K mk g Hs H T σ ρ ∧ ∀ v Hs' H', Same Hs Hs' → EnvAt K mk g Hs' H' ((v, x) :: T) σ ρ1 → Q v H'
def tEx (K : PySem.W.Frag) (mk : List Bool) (W : WX) (ρ : En) (c : Str) (ρ1 : En) : TE := fun σ H _ => ∃ g Hs T, EnvAt K mk g Hs H T σ ρ ∧ ∀ Hs' H', Same Hs Hs' → EnvAt K mk g Hs' H' T σ ρ1 → W (clsV K c) none σ H'
def tEt (K : PySem.W.Frag) (mk : List Bool) (ρ : En) (b : Bool) (ρ1 : En) : TT := fun σ H Q => ∃ g Hs T, EnvAt K mk g Hs H T σ ρ ∧ ∀ Hs' H', Same Hs Hs' → EnvAt K mk g Hs' H' T σ ρ1 → Q b H'
inductive Oe where
  | ok (x : Rs) (ρ : En) | ex (c : Str) (ρ : En)
structure SE (X : Cx) (mk : List Bool) (W : WX) (e : Expr) (s : En → Option Oe) : Prop where
  ok : ∀ ρ x ρ1, s ρ = some (.ok x ρ1) → PE X e (tEv X.K mk ρ x ρ1)
  ex : ∀ ρ c ρ1, s ρ = some (.ex c ρ1) → PE X e (tEx X.K mk W ρ c ρ1)
/-- a test with effects -/
def TE' (X : Cx) (mk : List Bool) (e : Expr) (s : En → Option (Bool × En)) : Prop := ∀ ρ b ρ1, s ρ = some (b, ρ1) → PT X e (tEt X.K mk ρ b ρ1)
inductive Out where
  | nx (ρ : En) | bk (ρ : En) | ct (ρ : En) | rt (x : Rs) (ρ : En) | ex (c : Str) (ρ : En)
section
variable (K : PySem.W.Frag) (mk : List Bool) (W : WX)
def tPost (o : Out) (D : Ends) (g : Gh) (Hs : Hp) : Prop := match o with
  | .nx ρ' => ∀ σ' Hs' H', Same Hs Hs' → EnvAt K mk g Hs' H' [] σ' ρ' → D.nx σ' H'
  | .bk ρ' => ∀ σ' Hs' H', Same Hs Hs' → EnvAt K mk g Hs' H' [] σ' ρ' → D.bk σ' H'
  | .ct ρ' => ∀ σ' Hs' H', Same Hs Hs' → EnvAt K mk g Hs' H' [] σ' ρ' → D.ct σ' H'
  | .rt x ρ' => ∀ v σ' Hs' H', Same Hs Hs' → EnvAt K mk g Hs' H' [(v, x)] σ' ρ' → D.rt v H'
  | .ex c ρ' => ∀ σ' Hs' H', Same Hs Hs' → EnvAt K mk g Hs' H' [] σ' ρ' → W (clsV K c) none σ' H'
def tSt (ρ : En) (o : Out) : TS := fun D σ H => ∃ g Hs, EnvAt K mk g Hs H [] σ ρ ∧ tPost K mk W o D g Hs
end
theorem tPost_later {K : PySem.W.Frag} {mk : List Bool} {W : WX} {o : Out} {D : Ends} {g : Gh} {Hs Hs1 : Hp} (s : Same Hs Hs1) (k : tPost K mk W o D g Hs) : tPost K mk W o D g Hs1 := by
  cases o with
  | nx ρ' => exact fun σ' Hs' H' s' => k σ' Hs' H' (s.trans s')
  | bk ρ' => exact fun σ' Hs' H' s' => k σ' Hs' H' (s.trans s')
  | ct ρ' => exact fun σ' Hs' H' s' => k σ' Hs' H' (s.trans s')
  | rt x ρ' => exact fun v σ' Hs' H' s' => k v σ' Hs' H' (s.trans s')
  | ex x ρ' => exact fun σ' Hs' H' s' => k σ' Hs' H' (s.trans s')
abbrev FS := En → Option Out
def SS (X : Cx) (mk : List Bool) (W : WX) (st : Stmt) (s : FS) : Prop := ∀ ρ o, s ρ = some o → PS X st (tSt X.K mk W ρ o)
def SSs (X : Cx) (mk : List Bool) (W : WX) (st : List Stmt) (s : FS) : Prop := ∀ ρ o, s ρ = some o → PSs X st (tSt X.K mk W ρ o)
/-- slot i is put: other names of its parts are let go -/
def dropA (i : Nat) : En → En
  | [] => []
  | .al j π :: t => (if j = i then .un else .al j π) :: dropA i t
  | s :: t => s :: dropA i t
def put (ρ : En) (i : Nat) (s : Sv) : En := (dropA i ρ).set i s
section
variable {K : PySem.W.Frag} {mk : List Bool} {g : Gh} {Hs Hs' H H' : Hp} {T : List VR} {σ : St} {ρ : En} {v : V} {x : Rs}
theorem dropA_map (i : Nat) (ρ : En) : dropA i ρ = ρ.map fun s => match s with
    | .al j π => if j = i then .un else .al j π
    | s => s := by
  induction ρ with
  | nil => rfl
  | cons s t ih => cases s <;> simp [dropA, ih]
theorem dropA_len (i : Nat) (ρ : En) : (dropA i ρ).length = ρ.length := by rw [dropA_map, List.length_map]
theorem sl_drop {L : List VR} (i : Nat) (h : Sl σ ρ L) : Sl σ (dropA i ρ) L := by
  rw [dropA_map]
  refine sl_dropAl (fun s => ?_) h
  cases s with
  | al j π =>
    by_cases hj : j = i
    · exact .inr ⟨by simp [hj], _, _, rfl⟩
    · exact .inl (by simp [hj])
  | _ => exact .inl rfl
theorem dropA_al {i j k : Nat} {π : List Pe} (h : (dropA i ρ)[j]? = some (.al k π)) : ρ[j]? = some (.al k π) ∧ k ≠ i := by
  rw [dropA_map, List.getElem?_map] at h
  cases q : ρ[j]? with
  | none => rw [q] at h; cases h
  | some s =>
    rw [q] at h
    cases s with
    | al j' π' =>
      by_cases hj : j' = i
      · simp [hj] at h
      · simp [hj] at h; obtain ⟨rfl, rfl⟩ := h; exact ⟨rfl, hj⟩
    | _ => simp at h
theorem dropA_bo {i j : Nat} {r : Rs} (h : (dropA i ρ)[j]? = some (.bo r)) : ρ[j]? = some (.bo r) := by
  rw [dropA_map, List.getElem?_map] at h
  cases q : ρ[j]? with
  | none => rw [q] at h; cases h
  | some s =>
    rw [q] at h
    cases s with
    | al j' π' => by_cases hj : j' = i <;> simp [hj] at h
    | _ => simpa using h
theorem env_set {i : Nat} (env : EnvAt K mk g Hs H ((v, x) :: T) σ ρ) (hi : i < ρ.length) (hp : mk[i]? ≠ some true) : EnvAt K mk g Hs H T (σ.set i (some v)) (put ρ i (.ow x)) := by
  obtain ⟨⟨L, sl, h8⟩, pk, bor, als⟩ := env
  have hi' : i < (dropA i ρ).length := by rw [dropA_len]; exact hi
  obtain ⟨L', L0, Lx, a, b, c⟩ := sl_set (v := v) (r := x) i (sl_drop i sl) hi'
  refine ⟨⟨L', a, ?_⟩, fun j w h1 h2 => ?_, fun j r h1 => ?_, fun j k π h1 => ?_⟩
  · have h1 : St9 K g Hs H (Lx ++ (L0 ++ (v, x) :: T)) := by
      rw [← List.append_assoc]; exact st_perm (b.append_right _) h8
    have h2 := st_front (st_drop h1)
    exact st_perm (by simpa using (c.append_right T).symm) h2
  · rw [List.getElem?_set_ne (fun z => hp (by rw [z]; exact h1))]
    exact pk j w h1 h2
  · unfold put at h1
    by_cases hj : i = j
    · subst hj
      rw [List.getElem?_set_self hi'] at h1; cases h1
    · rw [List.getElem?_set_ne hj] at h1 ⊢
      exact bor j r (dropA_bo h1)
  · unfold put at h1
    by_cases hj : i = j
    · subst hj
      rw [List.getElem?_set_self hi'] at h1; cases h1
    · rw [List.getElem?_set_ne hj] at h1 ⊢
      obtain ⟨h2, hk⟩ := dropA_al h1
      rw [List.getElem?_set_ne (Ne.symm hk)]
      exact als j k π h2
theorem own_tk {a b : List Lk} (s : TkSub a b) {v : V} {r : Rs} {fp : List Addr} (h : Own K (.own a) Hs H v r fp) : Own K (.own b) Hs H v r fp :=
  own_map (P := fun _ => True) (m' := .own b) (H' := H) (.refl _) (fun n c kv _ q => by
    cases n with
    | zero => exact q
    | succ n => obtain ⟨o, h1, h2⟩ := q; exact ⟨o, s _ _ h1, h2⟩) (fun _ _ _ e _ => e) h fun _ _ => trivial
theorem tk0 {b : List Lk} : TkSub [] b := fun n p h => by simp at h
/-- a list of one's own is data from here on -/
theorem env_freeze {ds : List PyData} (e : EnvAt K mk g Hs H ((v, .lst ds) :: T) σ ρ) : ∃ Hs', Same Hs Hs' ∧ EnvAt K mk g Hs' H ((v, .da (.list ds)) :: T) σ ρ := by
  obtain ⟨⟨L, sl, h⟩, pk, bor, als⟩ := e
  have h1 := st_front h
  obtain ⟨fp, ow, n, f⟩ := h1.own
  cases ow with
  | cons o t =>
    cases o with
    | lst e q =>
      rename_i fpL a xs
      have fa := f a (by simp)
      have s1 : Same Hs (upd Hs a (.lst xs)) := same_upd fa.1
      refine ⟨upd Hs a (.lst xs), s1, ⟨L, sl, st_back ?_⟩, pk, bor, als⟩
      refine ⟨?_, fun b kv z => ?_, ⟨[] ++ fpL, .cons (.da (.lst upd_same (dpAll_mono s1 q))) (ownL_mono s1 t fun _ _ _ z => z), (List.nodup_append.mp n).2.1, fun b m => ?_⟩, h.data.trans s1, fun b u z => ?_, h.keep, h.keepL⟩
      · intro b u z
        by_cases hb : b = a
        · subst hb; rw [upd_same] at z; cases z; exact e
        · rw [upd_ne hb] at z; exact h.sub b u z
      · by_cases hb : b = a
        · subst hb; rw [upd_same] at z; cases z
        · rw [upd_ne hb] at z; exact h.nod b kv z
      · have : b ≠ a := fun z => by
          subst z
          exact (List.nodup_append.mp n).2.2 b (by simp) b m rfl
        rw [upd_ne this]; exact f b (by simp at m; simp [m])
      · by_cases hb : b = a
        · subst hb; exact .inr fa.2
        · rw [upd_ne hb] at z; exact h.new b u z
end
section
variable {X : Cx} {mk : List Bool} {W : WX} {e a b c : Expr} {es rest : List Expr} {pos pp : Pos} {s : FE} {se : En → Option Oe} {st : Stmt} {body els more : List Stmt} {s1 s2 : FS} {t : En → Option Bool} {te : En → Option (Bool × En)}
/-! ### quiet ones -/
def qE (s : FE) : En → Option Oe := fun ρ => match s ρ with
  | some (.ok x) => some (.ok x ρ)
  | some (.ex c) => some (.ex c ρ)
  | none => none
theorem se_v (h : SV X W e s) : SE X mk W e (qE s) := by
  refine ⟨fun ρ x ρ1 z => ?_, fun ρ cc ρ1 z => ?_⟩ <;> unfold qE at z <;> split at z
  · rename_i q
    cases z
    exact pe_imp (h.ok _ _ q) fun σ H Q ⟨g, Hs, T, env, k⟩ => ⟨Hs, _, env_q env, fun v Hs1 H1 fp e1 o n f => k v Hs1 H1 e1.data (env_new e1 env o n f)⟩
  · cases z
  · cases z
  · cases z
  · rename_i q
    cases z
    exact pe_imp (h.ex _ _ q) fun σ H Q ⟨g, Hs, T, env, k⟩ => ⟨Hs, _, env_q env, fun Hs1 H1 e1 => k Hs1 H1 e1.data (env_ext e1 env)⟩
  · cases z
/-- a list that is made is data from here on -/
def fzE (se : En → Option Oe) : En → Option Oe := fun ρ => match se ρ with
  | some (.ok (.lst ds) ρ1) => some (.ok (.da (.list ds)) ρ1)
  | r => r
theorem se_fz (h : SE X mk W e se) : SE X mk W e (fzE se) := by
  refine ⟨fun ρ x ρ1 z => ?_, fun ρ cc ρ1 z => ?_⟩ <;> unfold fzE at z <;> split at z
  · rename_i q
    cases z
    exact pe_imp (h.ok _ _ _ q) fun σ H Q ⟨g, Hs, T, env, k⟩ => ⟨g, Hs, T, env, fun v Hs1 H1 s1 e1 => by
      obtain ⟨Hs2, s2, e2⟩ := env_freeze e1
      exact k v Hs2 H1 (s1.trans s2) e2⟩
  · exact h.ok _ _ _ z
  · cases z
  · exact h.ex _ _ _ z
def qT (t : En → Option Bool) : En → Option (Bool × En) := fun ρ => (t ρ).map fun b => (b, ρ)
theorem te_q (h : ST X e t) : TE' X mk e (qT t) := fun ρ b ρ1 z => by
  unfold qT at z
  obtain ⟨b', q, z⟩ := map_some z
  cases z
  exact pt_imp (h ρ b q) fun σ H Q ⟨g, Hs, T, env, k⟩ => ⟨Hs, _, env_q env, fun Hs1 H1 e1 => k Hs1 H1 e1.data (env_ext e1 env)⟩
/-! ### blocks -/
def nilS : FS := fun ρ => some (.nx ρ)
def seqS (s1 s2 : FS) : FS := fun ρ => match s1 ρ with
  | some (.nx ρ1) => s2 ρ1
  | r => r
theorem sss_nil : SSs X mk W [] nilS := fun ρ o z => by
  cases z
  exact pss_imp pss_nil fun D σ H ⟨g, Hs, env, k⟩ => k σ Hs H (.refl _) env
theorem pss_some {rest : List Stmt} : PSs X rest (fun D σ H => ∃ ρ o, PSs X rest (tSt X.K mk W ρ o) ∧ tSt X.K mk W ρ o D σ H) := ⟨fun pins s σ H D I ⟨_, _, h, t⟩ => h.run pins s σ H D I t⟩
theorem sss_cons (h1 : SS X mk W st s1) (h2 : SSs X mk W more s2) : SSs X mk W (st :: more) (seqS s1 s2) := fun ρ o z => by
  unfold seqS at z
  split at z
  · rename_i ρ1 q
    exact pss_imp (pss_cons (h1 _ _ q) (h2 _ _ z)) fun D σ H ⟨g, Hs, env, k⟩ => ⟨g, Hs, env, fun σ' Hs' H' s' e' => ⟨g, Hs', e', tPost_later s' k⟩⟩
  · rename_i hn
    refine pss_imp (pss_cons (h1 _ _ z) (pss_never (sts := more))) fun D σ H ⟨g, Hs, env, k⟩ => ⟨g, Hs, env, ?_⟩
    cases o with
    | nx ρ1 => exact (hn ρ1 z).elim
    | bk => exact k
    | ct => exact k
    | rt => exact k
    | ex => exact k
theorem sss_one (h1 : SS X mk W st s1) : SSs X mk W [st] s1 := fun ρ o z => pss_one (h1 _ _ z)
/-! ### plain statements -/
theorem ss_pass : SS X mk W (.Pass pos) nilS := fun ρ o z => by cases z; exact ps_imp ps_pass fun D σ H ⟨g, Hs, env, k⟩ => k σ Hs H (.refl _) env
theorem ss_break : SS X mk W (.Break pos) (fun ρ => some (.bk ρ)) := fun ρ o z => by cases z; exact ps_imp ps_break fun D σ H ⟨g, Hs, env, k⟩ => k σ Hs H (.refl _) env
theorem ss_continue : SS X mk W (.Continue pos) (fun ρ => some (.ct ρ)) := fun ρ o z => by cases z; exact ps_imp ps_continue fun D σ H ⟨g, Hs, env, k⟩ => k σ Hs H (.refl _) env
/-- x = e -/
def setS (i : Nat) (se : En → Option Oe) : FS := fun ρ => match se ρ with
  | some (.ok x ρ1) => if i < ρ1.length then some (.nx (put ρ1 i (.ow x))) else none
  | some (.ex c ρ1) => some (.ex c ρ1)
  | none => none
theorem ss_set {i : Nat} {n : Str} (hN : X.N.Nodup) (hi : X.N[i]? = some n) (hx : Loc X.env.scope n) (he : SE X mk W e se) (hp : mk[i]? ≠ some true := by decide)
    (hs : swapsWith e (some (.Name n pp)) pos.line X.env = pure false := by rfl) (hf : X.fn n = true ∨ X.env.scope.names.lookup n = some .local := by first | exact .inl rfl | exact .inr rfl | assumption) :
    SS X mk W (.Assign [.Name n pp] e pos) (setS i se) := fun ρ o z => by
  unfold setS at z
  split at z
  · rename_i x ρ1 q
    split at z
    · rename_i hl
      cases z
      exact ps_imp (ps_set hN hi hx (he.ok _ _ _ q) hs hf) fun D σ H ⟨g, Hs, env, k⟩ => ⟨g, Hs, [], env, fun v Hs1 H1 s1 e1 => k _ Hs1 H1 s1 (env_set e1 hl hp)⟩
    · cases z
  · rename_i q
    cases z
    exact ps_imp (ps_set hN hi hx (he.ex _ _ _ q) hs hf) fun D σ H ⟨g, Hs, env, k⟩ => ⟨g, Hs, [], env, fun Hs1 H1 s1 e1 => k σ Hs1 H1 s1 e1⟩
  · cases z
def exprS (se : En → Option Oe) : FS := fun ρ => match se ρ with
  | some (.ok _ ρ1) => some (.nx ρ1)
  | some (.ex c ρ1) => some (.ex c ρ1)
  | none => none
theorem ss_expr (he : SE X mk W e se) (hs : swapsWith e none pos.line X.env = pure false := by rfl) : SS X mk W (.Expr e pos) (exprS se) := fun ρ o z => by
  unfold exprS at z
  split at z
  · rename_i x ρ1 q
    cases z
    exact ps_imp (ps_expr (he.ok _ _ _ q) hs) fun D σ H ⟨g, Hs, env, k⟩ => ⟨g, Hs, [], env, fun v Hs1 H1 s1 e1 => k σ Hs1 H1 s1 (env_pop e1)⟩
  · rename_i q
    cases z
    exact ps_imp (ps_expr (he.ex _ _ _ q) hs) fun D σ H ⟨g, Hs, env, k⟩ => ⟨g, Hs, [], env, fun Hs1 H1 s1 e1 => k σ Hs1 H1 s1 e1⟩
  · cases z
def retS (se : En → Option Oe) : FS := fun ρ => match se ρ with
  | some (.ok x ρ1) => some (.rt x ρ1)
  | some (.ex c ρ1) => some (.ex c ρ1)
  | none => none
theorem ss_ret (he : SE X mk W e se) : SS X mk W (.Return (some e) pos) (retS se) := fun ρ o z => by
  unfold retS at z
  split at z
  · rename_i x ρ1 q
    cases z
    exact ps_imp (ps_ret (he.ok _ _ _ q)) fun D σ H ⟨g, Hs, env, k⟩ => ⟨g, Hs, [], env, fun v Hs1 H1 s1 e1 => k v σ Hs1 H1 s1 e1⟩
  · rename_i q
    cases z
    exact ps_imp (ps_ret (he.ex _ _ _ q)) fun D σ H ⟨g, Hs, env, k⟩ => ⟨g, Hs, [], env, fun Hs1 H1 s1 e1 => k σ Hs1 H1 s1 e1⟩
  · cases z
theorem ss_retN : SS X mk W (.Return none pos) (fun ρ => some (.rt (.da .none) ρ)) := fun ρ o z => by
  cases z
  exact ps_imp ps_retN fun D σ H ⟨g, Hs, env, k⟩ => k .non σ Hs H (.refl _) (env_push env .non)
/-- a name's thing, handed on: data is read, a thing of one's own is moved -/
def mvE (i : Nat) : En → Option Oe := fun ρ => match ρ[i]? with
  | some (.ow (.da d)) => some (.ok (.da d) ρ)
  | some (.ow r) => some (.ok r (ρ.set i .un))
  | some (.bo (.da d)) => some (.ok (.da d) ρ)
  | _ => none
theorem env_mv {K : PySem.W.Frag} {g : Gh} {Hs H : Hp} {T : List VR} {σ : St} {ρ : En} {i : Nat} {r : Rs} (e : EnvAt K mk g Hs H T σ ρ) (hi : ρ[i]? = some (.ow r)) : ∃ v, σ[i]? = some (some v) ∧ EnvAt K mk g Hs H ((v, r) :: T) σ (ρ.set i .un) := by
  obtain ⟨⟨L, sl, h⟩, pk, bor, als⟩ := e
  obtain ⟨v, L1, L2, a, rfl, _, c⟩ := sl_get sl hi
  refine ⟨v, a, ⟨_, c, ?_⟩, pk, fun j r' hj => ?_, fun j k π hj => ?_⟩
  · refine st_perm ?_ h
    rw [List.append_assoc, List.append_assoc, List.cons_append]
    refine (List.perm_middle).trans ?_
    rw [← List.append_assoc, ← List.append_assoc]
    exact List.perm_middle.symm
  · by_cases hij : i = j
    · subst hij
      rw [List.getElem?_set_self (List.getElem?_eq_some_iff.mp hi).1] at hj; cases hj
    · rw [List.getElem?_set_ne hij] at hj
      exact bor j r' hj
  · by_cases hij : i = j
    · subst hij
      rw [List.getElem?_set_self (List.getElem?_eq_some_iff.mp hi).1] at hj; cases hj
    · rw [List.getElem?_set_ne hij] at hj
      exact als j k π hj
theorem se_mv {i : Nat} (h : PE X e (tVar i)) : SE X mk W e (mvE i) := by
  refine ⟨fun ρ x ρ1 z => ?_, fun ρ cc ρ1 z => ?_⟩ <;> unfold mvE at z <;> split at z
  · rename_i d q
    cases z
    exact pe_imp h fun σ H Q ⟨g, Hs, T, env, k⟩ => by
      obtain ⟨v, fp, a, o, _⟩ := envQ_tree (env_q env) (show trOf ρ i = some (.da d) by unfold trOf; rw [q])
      exact ⟨v, a, k v Hs H (.refl _) (env_push env (own_dp o))⟩
  · rename_i r _ q
    cases z
    exact pe_imp h fun σ H Q ⟨g, Hs, T, env, k⟩ => by
      obtain ⟨v, a, e1⟩ := env_mv env q
      exact ⟨v, a, k v Hs H (.refl _) e1⟩
  · rename_i d q
    cases z
    exact pe_imp h fun σ H Q ⟨g, Hs, T, env, k⟩ => by
      obtain ⟨v, fp, a, o, _⟩ := envQ_tree (env_q env) (show trOf ρ i = some (.da d) by unfold trOf; rw [q])
      exact ⟨v, a, k v Hs H (.refl _) (env_push env (own_dp o))⟩
  · cases z
  all_goals cases z
/-! ### if -/
def ifS (te : En → Option (Bool × En)) (s1 s2 : FS) : FS := fun ρ => match te ρ with
  | some (true, ρ1) => s1 ρ1
  | some (false, ρ1) => s2 ρ1
  | none => none
theorem ss_if (hc : TE' X mk c te) (h1 : SSs X mk W body s1) (h2 : SSs X mk W els s2) : SS X mk W (.If c body els pos) (ifS te s1 s2) := fun ρ o z => by
  unfold ifS at z
  split at z
  · rename_i ρ1 q
    exact ps_imp (ps_if (hc _ _ _ q) (h1 _ _ z) (pss_never (sts := els))) fun D σ H ⟨g, Hs, env, k⟩ => ⟨g, Hs, [], env, fun Hs1 H1 s1 e1 => iteT ⟨g, Hs1, e1, tPost_later s1 k⟩⟩
  · rename_i ρ1 q
    exact ps_imp (ps_if (hc _ _ _ q) (pss_never (sts := body)) (h2 _ _ z)) fun D σ H ⟨g, Hs, env, k⟩ => ⟨g, Hs, [], env, fun Hs1 H1 s1 e1 => iteF ⟨g, Hs1, e1, tPost_later s1 k⟩⟩
  · cases z
/-! ### raise -/
def raiseS (c : Str) : FS := fun ρ => some (.ex c ρ)
theorem ss_raise {n m : Str} {j : Nat} {p1 p2 p3 : Pos} (hc : X.calm = true) (tk : Takes X W) (F : PySem.W.excIn X.K (He.ga X.K n) He.veBase "ValueError.__new__" = true) (gC : X.mg n = some (.ref (He.ga X.K n))) (kC : PySem.W.keepIn X.K (.ref (He.ga X.K n)) = true) (bC : PySem.W.subIn X.K (.ref (He.ga X.K n)) (.type "BaseException") = some true)
    (tC : PySem.W.typeIn X.K (.ref (He.ga X.K n)) = some (.type "type")) (hg : Gl X n := by rfl) (hd : (n == ("__debug__" : Str)) = false := by decide) :
    SS X mk W (.Raise (some (.Call (.Name n p1) [.Constant (.str m) j p2] [] p3)) none pos) (raiseS n) := fun ρ o z => by
  cases z
  exact ps_imp (ps_raise hc tk (pmk_own PySem.F.excBase_ValueError F gC kC (raises_own bC tC) hg hd)) fun D σ H ⟨g, Hs, env, k⟩ => k σ Hs H (.refl _) env
end
end Cg

/-! Loops. -/
namespace Cg
open PySem L2
/-! ### while -/
def whN (t : En → Option Bool) (b : FS) : Nat → FS
  | 0, _ => none
  | n + 1, ρ => match t ρ with
    | some false => some (.nx ρ)
    | some true => (match b ρ with
      | some (.nx ρ1) => whN t b n ρ1
      | some (.ct ρ1) => whN t b n ρ1
      | some (.bk ρ1) => some (.nx ρ1)
      | some (.rt x ρ1) => some (.rt x ρ1)
      | some (.ex c ρ1) => some (.ex c ρ1)
      | none => none)
    | none => none
theorem whN_mono {t : En → Option Bool} {b : FS} : ∀ {n : Nat} {ρ : En} {o : Out}, whN t b n ρ = some o → whN t b (n + 1) ρ = some o
  | 0, ρ, o, h => by cases h
  | n + 1, ρ, o, h => by
    have e : ∀ m, whN t b (m + 1) ρ = match t ρ with
      | some false => some (.nx ρ)
      | some true => (match b ρ with
        | some (.nx ρ1) => whN t b m ρ1
        | some (.ct ρ1) => whN t b m ρ1
        | some (.bk ρ1) => some (.nx ρ1)
        | some (.rt x ρ1) => some (.rt x ρ1)
        | some (.ex c ρ1) => some (.ex c ρ1)
        | none => none)
      | none => none := fun m => by rw [whN]
    rw [e] at h
    rw [e]
    cases q : t ρ with
    | none => rw [q] at h; cases h
    | some z =>
      rw [q] at h
      cases z with
      | false => exact h
      | true =>
        dsimp only at h ⊢
        cases q2 : b ρ with
        | none => rw [q2] at h; cases h
        | some o2 =>
          rw [q2] at h
          cases o2 with
          | nx ρ1 => exact whN_mono h
          | ct ρ1 => exact whN_mono h
          | bk ρ1 => exact h
          | rt x ρ1 => exact h
          | ex x ρ1 => exact h
theorem whN_le {t : En → Option Bool} {b : FS} {n m : Nat} {ρ : En} {o : Out} (h : whN t b n ρ = some o) (hm : n ≤ m) : whN t b m ρ = some o := by
  induction hm with
  | refl => exact h
  | step _ ih => exact whN_mono ih
open Classical in
noncomputable def whileS (t : En → Option Bool) (b : FS) : FS := fun ρ => if h : ∃ o n, whN t b n ρ = some o then some h.choose else none
theorem whileS_of {t : En → Option Bool} {b : FS} {n : Nat} {ρ : En} {o : Out} (h : whN t b n ρ = some o) : whileS t b ρ = some o := by
  have hx : ∃ o n, whN t b n ρ = some o := ⟨o, n, h⟩
  unfold whileS
  rw [dif_pos hx]
  obtain ⟨m, hm⟩ := hx.choose_spec
  have a := whN_le h (Nat.le_max_left n m)
  have b' := whN_le hm (Nat.le_max_right n m)
  rw [a] at b'
  exact b'.symm
theorem whileS_ex {t : En → Option Bool} {b : FS} {ρ : En} {o : Out} (h : whileS t b ρ = some o) : ∃ n, whN t b n ρ = some o := by
  unfold whileS at h
  split at h
  · rename_i hx
    cases h
    exact hx.choose_spec
  · cases h
/-- one turn -/
theorem whileS_true {t : En → Option Bool} {b : FS} {ρ ρ1 : En} {o : Out} (ht : t ρ = some true) (hb : b ρ = some (.nx ρ1)) (h : whileS t b ρ1 = some o) : whileS t b ρ = some o := by
  obtain ⟨n, h⟩ := whileS_ex h
  exact whileS_of (n := n + 1) (by rw [whN]; simp only [ht, hb]; exact h)
theorem whileS_false {t : En → Option Bool} {b : FS} {ρ : En} (ht : t ρ = some false) : whileS t b ρ = some (.nx ρ) := whileS_of (n := 1) (by rw [whN]; simp only [ht])
theorem whileS_ret {t : En → Option Bool} {b : FS} {ρ ρ1 : En} {x : Rs} (ht : t ρ = some true) (hb : b ρ = some (.rt x ρ1)) : whileS t b ρ = some (.rt x ρ1) := whileS_of (n := 1) (by rw [whN]; simp only [ht, hb])
section
variable {X : Cx} {mk : List Bool} {W : WX} {e a b c iter tg : Expr} {pos pp : Pos} {s : FE} {body : List Stmt} {sb : FS} {t : En → Option Bool} {sd : FD}
theorem ss_while (hp : PassesOwn (model X.prog X.w) X.A X.env X.xe) (hc : ST X c t) (hb : SSs X mk W body sb) : SS X mk W (.While c body [] pos) (whileS t sb) := fun ρ o z => by
  obtain ⟨n, h0⟩ := whileS_ex z
  have hc' : PT X c (fun σ H Q => ∃ ρ b, QT X c ρ b ∧ tQT X.K ρ b σ H Q) := ⟨fun pins s σ H Q I ⟨_, _, h, t⟩ => h.run pins s σ H Q I t⟩
  refine ps_imp (ps_while hp hc' (pss_some (rest := body) (mk := mk) (W := W))) fun D σ H hw => ?_
  refine ⟨fun m σ H => ∃ ρ, whN t sb m ρ = some o ∧ tSt X.K mk W ρ o D σ H, ⟨n, ρ, h0, hw⟩, ?_⟩
  clear h0 z hw
  rintro m σ H ⟨ρ, h, g, Hs, env, k⟩
  have later : ∀ {m' : Nat} {ρ2 : En} {σ2 : St} {Hs2 H2 : Hp}, whN t sb m' ρ2 = some o → Same Hs Hs2 → EnvAt X.K mk g Hs2 H2 [] σ2 ρ2 → ∃ ρ, whN t sb m' ρ = some o ∧ tSt X.K mk W ρ o D σ2 H2 :=
    fun {m' ρ2 σ2 Hs2 H2} h s e => ⟨ρ2, h, g, Hs2, e, tPost_later s k⟩
  cases m with
  | zero => cases h
  | succ m =>
    rw [whN] at h
    split at h
    · rename_i q
      cases h
      exact ⟨_, _, hc _ _ q, Hs, _, env_q env, fun Hs1 H1 e1 => iteF (k σ Hs1 H1 e1.data (env_ext e1 env))⟩
    · rename_i q
      refine ⟨_, _, hc _ _ q, Hs, _, env_q env, fun Hs1 H1 e1 => iteT ?_⟩
      split at h
      · rename_i ρ1 q2
        exact ⟨fun σ' H' => ∃ ρ, whN t sb m ρ = some o ∧ tSt X.K mk W ρ o D σ' H', fun σ' H' hN => ⟨m, by omega, hN⟩, _, _, hb _ _ q2, g, Hs1, env_ext e1 env, fun σ2 Hs2 H2 s2 e2 => later h (e1.data.trans s2) e2⟩
      · rename_i ρ1 q2
        exact ⟨fun σ' H' => ∃ ρ, whN t sb m ρ = some o ∧ tSt X.K mk W ρ o D σ' H', fun σ' H' hN => ⟨m, by omega, hN⟩, _, _, hb _ _ q2, g, Hs1, env_ext e1 env, fun σ2 Hs2 H2 s2 e2 => later h (e1.data.trans s2) e2⟩
      · rename_i ρ1 q2
        cases h
        exact ⟨fun _ _ => False, fun _ _ z => z.elim, _, _, hb _ _ q2, g, Hs1, env_ext e1 env, fun σ2 Hs2 H2 s2 e2 => k σ2 Hs2 H2 (e1.data.trans s2) e2⟩
      · rename_i x ρ1 q2
        cases h
        exact ⟨fun _ _ => False, fun _ _ z => z.elim, _, _, hb _ _ q2, g, Hs1, env_ext e1 env, fun v σ2 Hs2 H2 s2 e2 => k v σ2 Hs2 H2 (e1.data.trans s2) e2⟩
      · rename_i x ρ1 q2
        cases h
        exact ⟨fun _ _ => False, fun _ _ z => z.elim, _, _, hb _ _ q2, g, Hs1, env_ext e1 env, fun σ2 Hs2 H2 s2 e2 => k σ2 Hs2 H2 (e1.data.trans s2) e2⟩
      · cases h
    · cases h
/-! ### for -/
def forL (i : Nat) (b : FS) : List PyData → FS
  | [], ρ => some (.nx ρ)
  | d :: ds, ρ => if i < ρ.length then (match b (put ρ i (.ow (.da d))) with
    | some (.nx ρ1) => forL i b ds ρ1
    | some (.ct ρ1) => forL i b ds ρ1
    | some (.bk ρ1) => some (.nx ρ1)
    | some (.rt x ρ1) => some (.rt x ρ1)
    | some (.ex c ρ1) => some (.ex c ρ1)
    | none => none) else none
/-- what is walked yields the data ds one by one, while the state is one of g's -/
def Wk (K : PySem.W.Frag) (mk : List Bool) (g : Gh) (Hs : Hp) (J : It) (ds : List PyData) : Prop := ∀ Hs1 H1 σ1 ρ1, Same Hs Hs1 → EnvAt K mk g Hs1 H1 [] σ1 ρ1 →
  (∀ (j : Nat) d, ds[j]? = some d → J.go j H1 ∧ ∀ x H3, J.yld j H1 x H3 → H3 = H1 ∧ Dp K Hs1 x d) ∧ ∀ j, ds.length ≤ j → J.stop j H1
/-- a loop, once it is begun -/
theorem for_run {i : Nat} {K : PySem.W.Frag} {g : Gh} {Hs H : Hp} {σ : St} {ρ : En} {J : It} {ds : List PyData} {o : Out} {D : Ends} (hb : SSs X mk W body sb) (hm : mk[i]? ≠ some true) (wk : Wk X.K mk g Hs J ds) (h : forL i sb ds ρ = some o) (env : EnvAt X.K mk g Hs H [] σ ρ) (k : tPost X.K mk W o D g Hs) :
    ∃ Wv : Nat → Nat → St → Hp → Prop, (∃ m, Wv 0 m σ H) ∧ ∀ i' m σ H, Wv i' m σ H → (J.stop i' H ∧ D.nx σ H) ∨ (J.go i' H ∧ ∃ N : St → Hp → Prop, (∀ σ' H', N σ' H' → ∃ m', m' < m ∧ Wv (i' + 1) m' σ' H') ∧
      ∀ x H', J.yld i' H x H' → gName i x σ H' fun σ2 H2 => (fun D σ H => ∃ ρ o, PSs X body (tSt X.K mk W ρ o) ∧ tSt X.K mk W ρ o D σ H) { D with nx := N, ct := N, bk := D.nx } σ2 H2) := by
  refine ⟨fun j m σ H => ∃ ds' ρ' Hs', ds.drop j = ds' ∧ m = ds'.length ∧ forL i sb ds' ρ' = some o ∧ Same Hs Hs' ∧ EnvAt X.K mk g Hs' H [] σ ρ', ⟨_, ds, ρ, Hs, rfl, rfl, h, .refl _, env⟩, ?_⟩
  clear h env
  rintro j m σ H ⟨ds', ρ', Hs', hd, hm', h, s', env'⟩
  obtain ⟨wg, ws⟩ := wk Hs' H σ ρ' s' env'
  cases ds' with
  | nil =>
    rw [forL] at h
    cases h
    refine .inl ⟨ws j ?_, k σ Hs' H s' env'⟩
    have := congrArg List.length hd
    simp at this
    omega
  | cons d t =>
    have hj : j < ds.length := by
      have := congrArg List.length hd
      simp at this
      omega
    rw [List.drop_eq_getElem_cons hj] at hd
    injection hd with ha hb'
    have hdj : ds[j]? = some d := by rw [List.getElem?_eq_getElem hj, ha]
    obtain ⟨g', y⟩ := wg j d hdj
    rw [forL] at h
    split at h
    · rename_i hl
      refine .inr ⟨g', fun σ2 H2 => ∃ ρ' Hs', forL i sb t ρ' = some o ∧ Same Hs Hs' ∧ EnvAt X.K mk g Hs' H2 [] σ2 ρ', fun σ2 H2 ⟨ρ2, Hs2, q1, q2, q3⟩ => ⟨t.length, by rw [hm']; simp, t, ρ2, Hs2, hb', rfl, q1, q2, q3⟩, fun x H3 yl => ?_⟩
      obtain ⟨rfl, dx⟩ := y x H3 yl
      have e1 := env_set (env_push env' dx) hl hm
      split at h
      · rename_i ρ1 q2
        exact ⟨_, _, hb _ _ q2, g, Hs', e1, fun σ4 Hs4 H4 s4 e4 => ⟨_, Hs4, h, s'.trans s4, e4⟩⟩
      · rename_i ρ1 q2
        exact ⟨_, _, hb _ _ q2, g, Hs', e1, fun σ4 Hs4 H4 s4 e4 => ⟨_, Hs4, h, s'.trans s4, e4⟩⟩
      · rename_i ρ1 q2
        cases h
        exact ⟨_, _, hb _ _ q2, g, Hs', e1, fun σ4 Hs4 H4 s4 e4 => k σ4 Hs4 H4 (s'.trans s4) e4⟩
      · rename_i x' ρ1 q2
        cases h
        exact ⟨_, _, hb _ _ q2, g, Hs', e1, fun v σ4 Hs4 H4 s4 e4 => k v σ4 Hs4 H4 (s'.trans s4) e4⟩
      · rename_i x' ρ1 q2
        cases h
        exact ⟨_, _, hb _ _ q2, g, Hs', e1, fun σ4 Hs4 H4 s4 e4 => k σ4 Hs4 H4 (s'.trans s4) e4⟩
      · cases h
    · cases h
/-- over data: the items of a list or tuple, the signs of a text -/
def itD : PyData → Option (List PyData)
  | .list ds => some ds
  | .tuple ds => some ds
  | .str s => some (s.cps.toList.map fun c => .str ⟨#[c]⟩)
  | _ => none
def forD (i : Nat) (sd : FD) (b : FS) : FS := fun ρ => match sd ρ with
  | some (.ok d) => (match itD d with
    | some ds => forL i b ds ρ
    | none => none)
  | _ => none
theorem ss_forD {i : Nat} {n : Str} (hp : PassesOwn (model X.prog X.w) X.A X.env X.xe) (hc : X.calm = true) (hN : X.N.Nodup) (hi : X.N[i]? = some n) (hx : Loc X.env.scope n) (he : SD X W iter sd) (hb : SSs X mk W body sb) (hm : mk[i]? ≠ some true := by decide)
    (hs : ∀ x, foldedSetIterable iter X.env x = pure x := by intro _; rfl) (hf : X.fn n = true ∨ X.env.scope.names.lookup n = some .local := by first | exact .inl rfl | exact .inr rfl | assumption) :
    SS X mk W (.For (.Name n pp) iter body [] pos) (forD i sd sb) := fun ρ o z => by
  unfold forD at z
  split at z
  · rename_i d q
    split at z
    · rename_i ds q2
      have qd := he.ok _ _ q
      cases d with
      | list xs =>
        cases q2
        refine ps_imp (ps_for hp hc (pi_list qd) (pg_name hN hi hx hf) (pss_some (rest := body) (mk := mk) (W := W)) hs) fun D σ H ⟨g, Hs, env, k⟩ => tq_data (env_q env) fun v Hs1 H1 e1 dv => ?_
        obtain ⟨a, vs, rfl, q1, r⟩ := dp_lst dv
        refine ⟨a, rfl, ⟨vs, SqL.of (e1.sub _ _ q1)⟩, for_run (K := X.K) hb hm (fun Hs2 H2 σ2 ρ2 s2 e2 => ⟨fun j d hj => ?_, fun j hj => ?_⟩) z (env_ext e1 env) (tPost_later e1.data k)⟩
        · obtain ⟨v, hv, dv⟩ := dpAll_get r hj
          have hq : H2 a = some (.lst vs) := env_sub e2 _ _ (s2 _ _ q1)
          refine ⟨⟨vs, v, SqL.of hq, hv⟩, fun x H3 y => ⟨y.1, ?_⟩⟩
          have := y.2 vs (SqL.of hq)
          rw [hv] at this; cases this
          exact dp_mono s2 dv
        · exact ⟨vs, SqL.of (env_sub e2 _ _ (s2 _ _ q1)), by rw [dpAll_length r]; exact hj⟩
      | tuple xs =>
        cases q2
        refine ps_imp (ps_for hp hc (pi_tup qd) (pg_name hN hi hx hf) (pss_some (rest := body) (mk := mk) (W := W)) hs) fun D σ H ⟨g, Hs, env, k⟩ => tq_data (env_q env) fun v Hs1 H1 e1 dv => ?_
        obtain ⟨a, vs, rfl, q1, r⟩ := dp_tup dv
        refine ⟨a, rfl, ⟨vs, SqT.of (e1.sub _ _ q1)⟩, for_run (K := X.K) hb hm (fun Hs2 H2 σ2 ρ2 s2 e2 => ⟨fun j d hj => ?_, fun j hj => ?_⟩) z (env_ext e1 env) (tPost_later e1.data k)⟩
        · obtain ⟨v, hv, dv⟩ := dpAll_get r hj
          have hq : H2 a = some (.tup vs) := env_sub e2 _ _ (s2 _ _ q1)
          refine ⟨⟨vs, v, SqT.of hq, hv⟩, fun x H3 y => ⟨y.1, ?_⟩⟩
          have := y.2 vs (SqT.of hq)
          rw [hv] at this; cases this
          exact dp_mono s2 dv
        · exact ⟨vs, SqT.of (env_sub e2 _ _ (s2 _ _ q1)), by rw [dpAll_length r]; exact hj⟩
      | str sg =>
        cases q2
        refine ps_imp (ps_for hp hc (pi_str qd) (pg_name hN hi hx hf) (pss_some (rest := body) (mk := mk) (W := W)) hs) fun D σ H ⟨g, Hs, env, k⟩ => tq_data (env_q env) fun v Hs1 H1 e1 dv => ?_
        refine ⟨sg, dp_str dv, for_run (K := X.K) hb hm (fun Hs2 H2 σ2 ρ2 s2 e2 => ⟨fun j d hj => ?_, fun j hj => ?_⟩) z (env_ext e1 env) (tPost_later e1.data k)⟩
        · rw [List.getElem?_map] at hj
          obtain ⟨cc, qc, rfl⟩ := map_some hj
          have hlt : j < sg.cps.size := by
            have := (List.getElem?_eq_some_iff.mp qc).1
            simpa using this
          refine ⟨hlt, fun x H3 y => ⟨y.1, ?_⟩⟩
          obtain ⟨c', hc', hx'⟩ := y.2
          have : sg.cps.toList[j]? = some c' := by simpa using hc'
          rw [qc] at this
          cases this
          rw [hx']
          exact .str _
        · show sg.cps.size ≤ j
          simpa using hj
      | _ => cases q2
    · cases z
  · cases z
/-- lo, lo + 1, .. -/
def rng (lo : Int) (n : Nat) : List PyData := (List.range n).map fun i => .int (lo + (i : Nat))
theorem wk_rng {K : PySem.W.Frag} {g : Gh} {Hs : Hp} {lo : Int} {n : Nat} : Wk K mk g Hs (Itr lo n) (rng lo n) := fun Hs1 H1 σ1 ρ1 _ _ => by
  refine ⟨fun j d hj => ?_, fun j hj => ?_⟩
  · unfold rng at hj
    rw [List.getElem?_map] at hj
    obtain ⟨i, q, rfl⟩ := map_some hj
    obtain ⟨hlt, e⟩ := List.getElem?_eq_some_iff.mp q
    simp at e hlt
    subst e
    exact ⟨hlt, fun x H3 y => ⟨y.1, by rw [y.2]; exact .int _⟩⟩
  · show n ≤ j
    simpa [rng] using hj
noncomputable def forR (i : Nat) (sd : FD) (b : FS) : FS := fun ρ => match sd ρ with
  | some (.ok (.int n)) => @ite _ (-(2 ^ 62) ≤ n ∧ n < 2 ^ 62) (Classical.propDecidable _) (forL i b (rng 0 n.toNat) ρ) none
  | _ => none
theorem ss_forR {i : Nat} {n : Str} {p1 p2 : Pos} (hr : X.mg "range" = none) (hp : PassesOwn (model X.prog X.w) X.A X.env X.xe) (hc : X.calm = true) (hN : X.N.Nodup) (hi : X.N[i]? = some n) (hx : Loc X.env.scope n) (he : SD X W e sd) (hb : SSs X mk W body sb) (hm : mk[i]? ≠ some true := by decide) (hg : Gl X "range" := by rfl)
    (hst : starEach [e] X.env = [(false, eval e X.env)] := by rfl) (hs : ∀ x, foldedSetIterable (.Call (.Name "range" p1) [e] [] p2) X.env x = pure x := by intro _; rfl) (hf : X.fn n = true ∨ X.env.scope.names.lookup n = some .local := by first | exact .inl rfl | exact .inr rfl | assumption) :
    SS X mk W (.For (.Name n pp) (.Call (.Name "range" p1) [e] [] p2) body [] pos) (forR i sd sb) := fun ρ o z => by
  unfold forR at z
  split at z
  · rename_i m q
    split at z
    · rename_i hz
      exact ps_imp (ps_for hp hc (pi_range1 hg hr (qs_cons (he.ok _ _ q) qs_nil hst) hst) (pg_name hN hi hx hf) (pss_some (rest := body) (mk := mk) (W := W)) hs) fun D σ H ⟨g, Hs, env, k⟩ => ⟨Hs, _, env_q env, fun vs Hs1 H1 e1 qq => by
        obtain ⟨v, rfl, q1⟩ := dpAll_1 qq
        rw [dp_int q1]
        exact ⟨m, rfl, hz.1, hz.2, for_run (K := X.K) hb hm wk_rng z (env_ext e1 env) (tPost_later e1.data k)⟩⟩
    · cases z
  · cases z
noncomputable def forR2 (i : Nat) (sd sd' : FD) (b : FS) : FS := fun ρ => match sd ρ, sd' ρ with
  | some (.ok (.int l)), some (.ok (.int n)) => @ite _ (-(2 ^ 62) ≤ l ∧ l < 2 ^ 62 ∧ -(2 ^ 62) ≤ n ∧ n < 2 ^ 62) (Classical.propDecidable _) (forL i b (rng l (n - l).toNat) ρ) none
  | _, _ => none
theorem ss_forR2 {i : Nat} {n : Str} {p1 p2 : Pos} {sd' : FD} (hr : X.mg "range" = none) (hp : PassesOwn (model X.prog X.w) X.A X.env X.xe) (hc : X.calm = true) (hN : X.N.Nodup) (hi : X.N[i]? = some n) (hx : Loc X.env.scope n) (he : SD X W e sd) (he2 : SD X W a sd') (hb : SSs X mk W body sb) (hm : mk[i]? ≠ some true := by decide) (hg : Gl X "range" := by rfl)
    (hst : starEach [e, a] X.env = [(false, eval e X.env), (false, eval a X.env)] := by rfl) (hst2 : starEach [a] X.env = [(false, eval a X.env)] := by rfl) (hs : ∀ x, foldedSetIterable (.Call (.Name "range" p1) [e, a] [] p2) X.env x = pure x := by intro _; rfl) (hf : X.fn n = true ∨ X.env.scope.names.lookup n = some .local := by first | exact .inl rfl | exact .inr rfl | assumption) :
    SS X mk W (.For (.Name n pp) (.Call (.Name "range" p1) [e, a] [] p2) body [] pos) (forR2 i sd sd' sb) := fun ρ o z => by
  unfold forR2 at z
  split at z
  · rename_i l m q q'
    split at z
    · rename_i hz
      exact ps_imp (ps_for hp hc (pi_range2 hg hr (qs_cons (he.ok _ _ q) (qs_cons (he2.ok _ _ q') qs_nil hst2) (hst.trans (by rw [hst2]))) hst hst2) (pg_name hN hi hx hf) (pss_some (rest := body) (mk := mk) (W := W)) hs) fun D σ H ⟨g, Hs, env, k⟩ => ⟨Hs, _, env_q env, fun vs Hs1 H1 e1 qq => by
        obtain ⟨v, w, rfl, q1, q2⟩ := dpAll_2 qq
        rw [dp_int q1, dp_int q2]
        exact ⟨l, m, rfl, hz, for_run (K := X.K) hb hm wk_rng z (env_ext e1 env) (tPost_later e1.data k)⟩⟩
    · cases z
  · cases z
end
end Cg

/-! A def from its body. -/
namespace Cg
open PySem L2
def startE : List Bool → List Rs → En
  | _, [] => []
  | [], r :: as => .bo r :: startE [] as
  | true :: m, r :: as => .ow r :: startE m as
  | false :: m, r :: as => .bo r :: startE m as
def finP : List Bool → En → Option (List Rs)
  | [], _ => some []
  | true :: m, .ow r :: ρ => (finP m ρ).map (r :: ·)
  | false :: m, _ :: ρ => (finP m ρ).map (.un :: ·)
  | _, _ => none
def bodyF (ar : Nat) (mk : List Bool) (n : Nat) (s : FS) (as : List Rs) : Option Rt := if as.length = ar then match s (startE mk as ++ List.replicate (n - as.length) .un) with
  | some (.rt x ρ) => (finP mk ρ).map (.ok x)
  | some (.nx ρ) => (finP mk ρ).map (.ok (.da .none))
  | some (.ex c ρ) => (finP mk ρ).map (.ex c)
  | _ => none
  else none
theorem sl_un0 : ∀ (k : Nat), Sl (List.replicate k none) (List.replicate k .un) []
  | 0 => .nil
  | k + 1 => by rw [List.replicate_succ, List.replicate_succ]; exact .un (sl_un0 k)
theorem sl_start {σ : St} {ρ : En} (h : Sl σ ρ []) : ∀ (mk : List Bool) (vs : List V) (as : List Rs), vs.length = as.length → Sl (vs.map some ++ σ) (startE mk as ++ ρ) (sel mk (vs.zip as))
  | mk, [], [], _ => by
    have : sel mk (([] : List V).zip ([] : List Rs)) = [] := by cases mk with
      | nil => rfl
      | cons b m => cases b <;> rfl
    rw [this]
    cases mk <;> exact h
  | [], v :: vs, r :: as, hl => by
    have q := sl_start h [] vs as (by simpa using hl)
    rw [sel_nil] at q ⊢
    exact .bo q
  | true :: m, v :: vs, r :: as, hl => .ow (sl_start h m vs as (by simpa using hl))
  | false :: m, v :: vs, r :: as, hl => .bo (sl_start h m vs as (by simpa using hl))
  | _, [], _ :: _, hl => by simp at hl
  | _, _ :: _, [], hl => by simp at hl
theorem startE_bo {ρ : En} (hn : ∀ s ∈ ρ, s = .un) : ∀ {mk : List Bool} {as : List Rs} {i : Nat} {r : Rs}, (startE mk as ++ ρ)[i]? = some (.bo r) → mk[i]? ≠ some true ∧ as[i]? = some r
  | mk, [], i, r, h => by
    have : (startE mk [] ++ ρ) = ρ := by cases mk <;> rfl
    rw [this] at h
    have := hn _ (List.mem_of_getElem? h)
    cases this
  | [], r' :: as, 0, r, h => by simp [startE] at h; subst h; simp
  | [], r' :: as, i + 1, r, h => by
    have := startE_bo hn (mk := []) (as := as) (i := i) (r := r) (by simpa [startE] using h)
    exact ⟨by simp, by simpa using this.2⟩
  | true :: m, r' :: as, 0, r, h => by simp [startE] at h
  | true :: m, r' :: as, i + 1, r, h => by
    have := startE_bo hn (mk := m) (as := as) (i := i) (r := r) (by simpa [startE] using h)
    simpa using this
  | false :: m, r' :: as, 0, r, h => by simp [startE] at h; subst h; simp
  | false :: m, r' :: as, i + 1, r, h => by
    have := startE_bo hn (mk := m) (as := as) (i := i) (r := r) (by simpa [startE] using h)
    simpa using this
theorem startE_al {ρ : En} (hn : ∀ s ∈ ρ, s = .un) : ∀ {mk : List Bool} {as : List Rs} {s : Sv}, s ∈ startE mk as ++ ρ → ∀ i π, s ≠ .al i π
  | mk, [], s, h, i, π => by
    have : (startE mk [] ++ ρ) = ρ := by cases mk <;> rfl
    rw [this] at h
    rw [hn s h]
    exact fun z => nomatch z
  | [], r' :: as, s, h, i, π => by
    rcases List.mem_cons.mp h with rfl | h
    · exact fun z => nomatch z
    · exact startE_al hn (mk := []) h i π
  | true :: m, r' :: as, s, h, i, π => by
    rcases List.mem_cons.mp h with rfl | h
    · exact fun z => nomatch z
    · exact startE_al hn (mk := m) h i π
  | false :: m, r' :: as, s, h, i, π => by
    rcases List.mem_cons.mp h with rfl | h
    · exact fun z => nomatch z
    · exact startE_al hn (mk := m) h i π
theorem sel_out {K : PySem.W.Frag} {g : Gh} {Hs H : Hp} : ∀ {mk : List Bool} {ρ : En} {σ : St} {vs : List V} {ps : List Rs} {L M : List VR}, (∀ (i : Nat) (v : V), mk[i]? = some true → vs[i]? = some v → σ[i]? = some (some v)) → finP mk ρ = some ps → Sl σ ρ L → St9 K g Hs H (M ++ L) → St9 K g Hs H (M ++ sel mk (vs.zip ps))
  | [], _, _, _, _, _, _, _, _, _, h => by
    rw [sel_nil, List.append_nil]
    exact st_drop (st_perm List.perm_append_comm h)
  | m :: mk, ρ, σ, [], ps, L, M, _, _, _, h => by
    have : ∀ m z, sel m (([] : List V).zip z) = [] := fun m z => by cases m <;> first | rfl | (rename_i b t; cases b <;> rfl)
    rw [this, List.append_nil]
    exact st_drop (st_perm List.perm_append_comm h)
  | false :: mk, [], σ, v :: vs0, ps, L, M, pk, pin, sl, h => by cases pin
  | true :: mk, [], σ, v :: vs0, ps, L, M, pk, pin, sl, h => by cases pin
  | false :: mk, s :: ρ, σ, v :: vs0, ps, L, M, pk, pin, sl, h => by
    obtain ⟨ps', q, rfl⟩ := map_some (show (finP mk ρ).map (.un :: ·) = some ps from pin)
    cases sl with
    | un sl => exact sel_out (mk := mk) (fun i v a b => by simpa using pk (i + 1) v (by simpa using a) (by simpa using b)) q sl h
    | bo sl => exact sel_out (mk := mk) (fun i v a b => by simpa using pk (i + 1) v (by simpa using a) (by simpa using b)) q sl h
    | al sl => exact sel_out (mk := mk) (fun i v a b => by simpa using pk (i + 1) v (by simpa using a) (by simpa using b)) q sl h
    | ow sl => exact sel_out (mk := mk) (fun i v a b => by simpa using pk (i + 1) v (by simpa using a) (by simpa using b)) q sl (st_tail (st_front h))
  | true :: mk, .un :: ρ, σ, v :: vs0, ps, L, M, pk, pin, sl, h => by cases pin
  | true :: mk, .bo _ :: ρ, σ, v :: vs0, ps, L, M, pk, pin, sl, h => by cases pin
  | true :: mk, .al _ _ :: ρ, σ, v :: vs0, ps, L, M, pk, pin, sl, h => by cases pin
  | true :: mk, .ow r :: ρ, σ, v :: vs0, ps, L, M, pk, pin, sl, h => by
    obtain ⟨ps', q, rfl⟩ := map_some (show (finP mk ρ).map (r :: ·) = some ps from pin)
    cases sl with
    | ow sl =>
      rename_i v' σ L
      have q2 := pk 0 v rfl rfl
      simp at q2
      subst q2
      have h' : St9 K g Hs H ((M ++ [(v', r)]) ++ L) := by rw [List.append_assoc]; exact h
      have q3 := sel_out (mk := mk) (vs := vs0) (fun i v a b => by simpa using pk (i + 1) v (by simpa using a) (by simpa using b)) q sl h'
      rw [List.append_assoc] at q3
      exact q3
section
variable {P : Program} {w : World} {K : PySem.W.Frag} {mg : Str → Option Value} {base : Heap}
/-- the context of a def's body -/
abbrev cxD (P : Program) (w : World) (K : PySem.W.Frag) (mg : Str → Option Value) (base : Heap) (N : List Str) (qual : Str) (scope : Scope) (f : Addr) (cdv : Value) (A : Around) (outer : List Env) (s : Shared) (H : Hp) (E : XK) : Cx := cxOf (L2.CX P w) P w K mg base N qual scope f cdv A outer s H E
abbrev WD (E : XK) : WX := fun cls d _ H => E cls d H
theorem takesD {N : List Str} {qual : Str} {scope : Scope} {f : Addr} {cdv : Value} {A : Around} {outer : List Env} {s : Shared} {H : Hp} {E : XK} : Takes (cxD P w K mg base N qual scope f cdv A outer s H E) (WD E) := takes_of rfl rfl rfl rfl
theorem passD {N : List Str} {qual : Str} {scope : Scope} {f : Addr} {cdv : Value} {A : Around} {outer : List Env} {s : Shared} {H : Hp} {E : XK} : PassesOwn (model (cxD P w K mg base N qual scope f cdv A outer s H E).prog (cxD P w K mg base N qual scope f cdv A outer s H E).w) (cxD P w K mg base N qual scope f cdv A outer s H E).A (cxD P w K mg base N qual scope f cdv A outer s H E).env (cxD P w K mg base N qual scope f cdv A outer s H E).xe := passes_of rfl
theorem fn_of {x qual : Str} {params : Arguments} {body : List Stmt} {scope : Scope} {f : Addr} {fd : FuncData} {N ps : List Str} {k : Nat} {mk : List Bool} {s : FS} (F : FunD K x qual params body scope [] [] f fd) (S : FnScope N ps scope)
    (hb : ∀ (kV doc pm : Value) (an : Option Addr) (cdv ct : Value) (us : List Value), us.length = ps.length → bindArgs (PySem.W.fnOf x qual params body scope .none kV doc pm an cdv ct) ⟨us, []⟩ = pure (ps.zip us))
    (hbody : ∀ (cdv : Value) (A : Around) (outer : List Env) (s0 : Shared) (H : Hp) (E : XK), Room k (A.deeper (PyProof.Rows.envOfC qual scope s0.heap.objs.size f cdv)) → SSs (cxD P w K mg base N qual scope f cdv A outer s0 H E) mk (WD E) body s) :
    FnOk P w K mg base (L2.CX P w) (k + 1) f fd ps (spM K mk (bodyF ps.length mk N.length s)) := by
  have hn : ∀ as o, bodyF ps.length mk N.length s as = some o → as.length = ps.length := fun as o h => by
    unfold bodyF at h
    split at h
    · assumption
    · cases h
  refine F.ok S (fun vs H Q E ⟨Hs, as, fp, o, _, _, hl, _, _, _, _, hF, _⟩ => hl.trans (hn as o hF)) fun cdv A outer s0 H vs Q E hr ⟨Hs, as, fp, o, s1, nd, hl, ow, n, fh, rdb, hF, post⟩ => ?_
  have hB := hbody cdv A outer s0 H E hr
  have env : EnvAt K mk ⟨Hs, H, (· ∈ fp), fun i => vs[i]?, [], []⟩ Hs H [] (start N vs) (startE mk as ++ List.replicate (N.length - as.length) .un) := by
    refine ⟨⟨sel mk (vs.zip as), ?_, ?_⟩, fun i v h1 h2 => ?_, fun i r h => ?_, fun j i π h => ?_⟩
    · unfold L2.start
      rw [hl]
      exact sl_start (sl_un0 _) mk vs as hl
    · rw [List.append_nil]
      exact ⟨s1, nd, ⟨fp, ow, n, fun a m => ⟨fh a m, .inr m⟩⟩, .refl _, fun _ _ e => .inl e, fun _ _ e _ _ => e, fun p hp => absurd hp (by simp)⟩
    · unfold L2.start
      have hv := (List.getElem?_eq_some_iff.mp (show vs[i]? = some v from h2)).1
      rw [List.getElem?_append_left (by simpa using hv), List.getElem?_map, show vs[i]? = some v from h2]
      rfl
    · obtain ⟨h1, h2⟩ := startE_bo (fun s m => (List.mem_replicate.mp m).2) h
      have hi : i < vs.length := by rw [hl]; exact (List.getElem?_eq_some_iff.mp h2).1
      obtain ⟨fq, o, av⟩ := rdb i vs[i] r h1 (List.getElem?_eq_getElem hi) h2
      refine ⟨vs[i], fq, ?_, o, av⟩
      unfold L2.start
      rw [List.getElem?_append_left (by simpa using hi), List.getElem?_map, List.getElem?_eq_getElem hi]
      rfl
    · exact absurd rfl (startE_al (fun s m => (List.mem_replicate.mp m).2) (List.mem_of_getElem? h) i π)
  have fin : ∀ {v : V} {x : Rs} {ps : List Rs} {σ' : St} {ρ' : En} {Hs' H' : Hp}, finP mk ρ' = some ps → EnvAt K mk ⟨Hs, H, (· ∈ fp), fun i => vs[i]?, [], []⟩ Hs' H' [(v, x)] σ' ρ' → St9 K ⟨Hs, H, (· ∈ fp), fun i => vs[i]?, [], []⟩ Hs' H' ((v, x) :: sel mk (vs.zip ps)) := fun {v x ps σ' ρ' Hs' H'} hf e => by
    obtain ⟨⟨L, sl, h9⟩, pk, _, _⟩ := e
    exact sel_out (M := [(v, x)]) pk hf sl (st_perm List.perm_append_comm h9)
  unfold bodyF at hF
  rw [if_pos (hn as o hF)] at hF
  split at hF
  · rename_i x' ρ' q
    obtain ⟨ps', hf, rfl⟩ := map_some hF
    exact ⟨_, hB _ _ q, _, Hs, env, fun v σ' Hs' H' s' e' => post v Hs' H' s' (fin hf e')⟩
  · rename_i ρ' q
    obtain ⟨ps', hf, rfl⟩ := map_some hF
    exact ⟨_, hB _ _ q, _, Hs, env, fun σ' Hs' H' s' e' => post .non Hs' H' s' (fin hf (env_push e' .non))⟩
  · rename_i cc ρ' q
    obtain ⟨ps', hf, rfl⟩ := map_some hF
    refine ⟨_, hB _ _ q, _, Hs, env, fun σ' Hs' H' s' e' => post Hs' H' s' ?_⟩
    exact st_tail (fin (v := .non) (x := .da .none) hf (env_push e' .non))
  · cases hF
theorem fq_of {x qual : Str} {params : Arguments} {body : List Stmt} {scope : Scope} {f : Addr} {fd : FuncData} {N ps : List Str} {k : Nat} {mk : List Bool} {s : FS} (F : FunD K x qual params body scope [] [] f fd) (S : FnScope N ps scope)
    (hb : ∀ (kV doc pm : Value) (an : Option Addr) (cdv ct : Value) (us : List Value), us.length = ps.length → bindArgs (PySem.W.fnOf x qual params body scope .none kV doc pm an cdv ct) ⟨us, []⟩ = pure (ps.zip us))
    (hbody : ∀ (cdv : Value) (A : Around) (outer : List Env) (s0 : Shared) (H : Hp) (E : XK), Room k (A.deeper (PyProof.Rows.envOfC qual scope s0.heap.objs.size f cdv)) → SSs (cxD P w K mg base N qual scope f cdv A outer s0 H E) mk (WD E) body s) :
    Fq P w K mg base f (k + 1) mk (bodyF ps.length mk N.length s) := by 
  exact ⟨fd, ps, F.bindsN hb, fn_of F S hb hbody⟩
end
end Cg

/-! Places; what changes a part of a slot's thing. -/
namespace Cg
open PySem L2
theorem way_app {H : Hp} {v u w : V} {π π' : List Pe} (a : Way H v π u) (b : Way H u π' w) : Way H v (π ++ π') w := by
  induction a with
  | nil => exact b
  | f h l _ ih => exact .f h l (ih b)
  | k h l _ ih => exact .k h l (ih b)
  | i h l _ ih => exact .i h l (ih b)
theorem getP_app {x : Rs} {π' : List Pe} : ∀ {π : List Pe} {r : Rs}, getP r π = some x → getP r (π ++ π') = getP x π' := by
  intro π
  induction π with
  | nil => intro r h; rw [getP] at h; cases h; rfl
  | cons p π ih =>
    intro r h
    rw [List.cons_append]
    cases p with
    | f n =>
      cases r with
      | ins c fs =>
        rw [getP] at h ⊢
        cases q : fs.lookup n with
        | none => rw [q] at h; cases h
        | some y => rw [q] at h; exact ih h
      | _ => cases h
    | k n =>
      cases r with
      | dct c fs =>
        rw [getP] at h ⊢
        cases q : valR n fs with
        | none => rw [q] at h; cases h
        | some y => rw [q] at h; exact ih h
      | _ => cases h
    | i n =>
      cases r with
      | lsr fs =>
        rw [getP] at h ⊢
        cases q : fs[n]? with
        | none => rw [q] at h; cases h
        | some y => rw [q] at h; exact ih h
      | _ => cases h
abbrev FP := En → Option (Nat × List Pe)
/-- the part at a place -/
def atP (ρ : En) (p : Nat × List Pe) : Option Rs := match ρ[p.1]? with
  | some (.ow r) => getP r p.2
  | _ => none
theorem atP_some {ρ : En} {p : Nat × List Pe} {x : Rs} (h : atP ρ p = some x) : ∃ r, ρ[p.1]? = some (.ow r) ∧ getP r p.2 = some x := by
  unfold atP at h
  split at h
  · exact ⟨_, by assumption, h⟩
  · cases h
def tPl (K : PySem.W.Frag) (ρ : En) (p : Nat × List Pe) : TE := fun σ H Q => ∃ Hs av, EnvQ K Hs H av σ ρ ∧ ∀ v u Hs' H', σ[p.1]? = some (some v) → Ext Hs H Hs' H' → Way H' v p.2 u → Q u H'
def SP (X : Cx) (e : Expr) (s : FP) : Prop := ∀ ρ p, s ρ = some p → (∃ x, atP ρ p = some x) ∧ PE X e (tPl X.K ρ p)
section
variable {X : Cx} {mk : List Bool} {W : WX} {e a b c o ix : Expr} {es : List Expr} {pos pp apos cpos tpos : Pos} {s : FE} {sd sd' : FD} {sp : FP} {se : En → Option Oe}
def varP (i : Nat) : FP := fun ρ => match ρ[i]? with
  | some (.ow _) => some (i, [])
  | some (.al j π) => if (atP ρ (j, π)).isSome then some (j, π) else none
  | _ => none
theorem sp_var {i : Nat} (h : PE X e (tVar i)) : SP X e (varP i) := fun ρ p z => by
  unfold varP at z
  split at z
  · rename_i r q
    cases z
    refine ⟨⟨r, by simp [atP, q, getP]⟩, pe_imp h fun σ H Q ⟨Hs, av, env, k⟩ => ?_⟩
    obtain ⟨v, fp, a, o, _⟩ := envQ_tree env (show trOf ρ i = some r by unfold trOf; rw [q])
    exact ⟨v, a, k v v Hs H a (.refl env.sub) .nil⟩
  · rename_i j π q
    split at z
    · rename_i q2
      cases z
      refine ⟨Option.isSome_iff_exists.mp q2, pe_imp h fun σ H Q ⟨Hs, av, env, k⟩ => ?_⟩
      obtain ⟨v, u, a, w, b⟩ := env.als i j π q
      exact ⟨u, b, k v u Hs H a (.refl env.sub) w⟩
    · cases z
  · cases z
/-- the part at a place, read -/
theorem place_own {K : PySem.W.Frag} {Hs H : Hp} {av : Addr → Prop} {σ : St} {ρ : En} {p : Nat × List Pe} {x : Rs} {v u : V} (env : EnvQ K Hs H av σ ρ) (hx : atP ρ p = some x) (hv : σ[p.1]? = some (some v)) (w : Way H v p.2 u) : ∃ fp, Own K .rdo Hs H u x fp := by
  obtain ⟨r, h1, h2⟩ := atP_some hx
  obtain ⟨v', fp, a, o, _⟩ := envQ_tree env (show trOf ρ p.1 = some r by unfold trOf; rw [h1])
  rw [hv] at a; cases a
  obtain ⟨u', fpx, _, w', ox, _⟩ := own_way o h2
  have := way_inj w w'
  subst this
  exact ⟨fpx, ox⟩
def attrP (cn f : Str) (sp : FP) : FP := fun ρ => match sp ρ with
  | some p => (match atP ρ p with
    | some (.ins c fs) => if c = cn ∧ (fs.lookup f).isSome then some (p.1, p.2 ++ [.f f]) else none
    | _ => none)
  | none => none
theorem sp_attr {cn f : Str} (cl : Cls X.K (He.ga X.K cn)) (na : NoAttr X.K (He.ga X.K cn) f) (h : SP X a sp) (hb : attributeBase a f X.env (eval a X.env) = eval a X.env := by rfl) : SP X (.Attribute a f pos) (attrP cn f sp) := fun ρ p z => by
  unfold attrP at z
  split at z
  · rename_i p0 q
    split at z
    · rename_i cc fs q1
      split at z
      · rename_i hc
        obtain ⟨rfl, hf⟩ := hc
        obtain ⟨y, hy⟩ := Option.isSome_iff_exists.mp hf
        cases z
        obtain ⟨r, h1, h2⟩ := atP_some q1
        refine ⟨⟨y, ?_⟩, pe_imp (pe_fld (h _ _ q).2 hb) fun σ H Q ⟨Hs, av, env, k⟩ => ⟨Hs, av, env, fun v u Hs1 H1 hv e1 w => ?_⟩⟩
        · show (match ρ[p0.1]? with
            | some (.ow r) => getP r (p0.2 ++ [.f f])
            | _ => none) = some y
          rw [h1]
          show getP r _ = _
          simp only [getP_app h2, getP, hy]
        · obtain ⟨fp, o⟩ := place_own (envQ_ext e1 env) q1 hv w
          cases o with
          | ins g1 g2 =>
            obtain ⟨u', fpx, fpc, l, o, pm, _⟩ := ownF_foc g2 hy
            exact ⟨_, _, _, _, _, rfl, g1, cl, na, l, k v u' Hs1 H1 hv e1 (way_app w (.f g1 l .nil))⟩
      · cases z
    · cases z
  · cases z
def keyD : PyData → Option Key
  | .str k => some (.inr k)
  | .int k => some (.inl k)
  | _ => none
theorem keyD_dp {K : PySem.W.Frag} {H : Hp} {v : V} {d : PyData} {k : Key} (h : Dp K H v d) (hk : keyD d = some k) : v = kV k := by
  cases h with
  | int => cases hk; rfl
  | str => cases hk; rfl
  | _ => cases hk
def subP (sp : FP) (sd : FD) : FP := fun ρ => match sp ρ, okk (sd ρ) with
  | some p, some d => (match atP ρ p with
    | some (.dct _ kvs) => (match keyD d with
      | some k => if (valR k kvs).isSome then some (p.1, p.2 ++ [.k k]) else none
      | none => none)
    | some (.lsr rs) => (match d with
      | .int i => (match ixN rs.length i with
        | some j => if (rs[j]?).isSome then some (p.1, p.2 ++ [.i j]) else none
        | none => none)
      | _ => none)
    | _ => none)
  | _, _ => none
theorem sp_sub {k : Nat} (hr : Room k X.A) (h : SP X a sp) (hd : SD X W b sd) (hs : PlainIx b := by exact (fun _ _ => rfl)) : SP X (.Subscript a b pos) (subP sp sd) := fun ρ p z => by
  unfold subP at z
  split at z
  · rename_i p0 d q qd
    have hdd := hd.ok _ _ (okk_some qd)
    split at z
    · rename_i n kvs q1
      split at z
      · rename_i kk hk
        split at z
        · rename_i hf
          obtain ⟨y, hy⟩ := Option.isSome_iff_exists.mp hf
          cases z
          obtain ⟨r, h1, h2⟩ := atP_some q1
          refine ⟨⟨y, ?_⟩, pe_imp (pe_dget (hu_of hr) (h _ _ q).2 hdd hs) fun σ H Q ⟨Hs, av, env, k⟩ => ⟨Hs, av, env, fun v u Hs1 H1 hv e1 w => tq_data (envQ_ext e1 env) fun w' Hs2 H2 e2 dw => ?_⟩⟩
          · show (match ρ[p0.1]? with
              | some (.ow r) => getP r (p0.2 ++ [.k kk])
              | _ => none) = some y
            rw [h1]
            show getP r _ = _
            simp only [getP_app h2, getP, hy]
          · have w2 := way_mono e2.all w
            obtain ⟨fp, o⟩ := place_own (envQ_ext (e1.trans e2) env) q1 hv w2
            cases o with
            | dct g1 nk g2 =>
              obtain ⟨u', fpx, fpc, l, o, pm, _⟩ := ownK_foc g2 hy
              exact ⟨_, u', rfl, .inl ⟨_, kk, dctAt_rd g1, keyD_dp dw hk, l.symm⟩, k v u' Hs2 H2 hv (e1.trans e2) (way_app w2 (.k (dctAt_rd g1) l .nil))⟩
        · cases z
      · cases z
    · rename_i rs q1
      split at z
      · rename_i i
        split at z
        · rename_i j hj
          split at z
          · rename_i hf
            obtain ⟨y, hy⟩ := Option.isSome_iff_exists.mp hf
            cases z
            obtain ⟨r, h1, h2⟩ := atP_some q1
            refine ⟨⟨y, ?_⟩, pe_imp (pe_ix ix_list (h _ _ q).2 hdd hs) fun σ H Q ⟨Hs, av, env, k⟩ => ⟨Hs, av, env, fun v u Hs1 H1 hv e1 w => tq_data (envQ_ext e1 env) fun w' Hs2 H2 e2 dw => ?_⟩⟩
            · show (match ρ[p0.1]? with
                | some (.ow r) => getP r (p0.2 ++ [.i j])
                | _ => none) = some y
              rw [h1]
              show getP r _ = _
              simp only [getP_app h2, getP, hy]
            · have w2 := way_mono e2.all w
              obtain ⟨fp, o⟩ := place_own (envQ_ext (e1.trans e2) env) q1 hv w2
              cases o with
              | lsr g1 g2 =>
                obtain ⟨u', fpx, fpc, l, o, pm, _⟩ := ownS_foc g2 hy
                rw [dp_int dw]
                refine ⟨_, _, _, u', rfl, rfl, SqL.of g1, ?_, k v u' Hs2 H2 hv (e1.trans e2) (way_app w2 (.i g1 l .nil))⟩
                unfold atI
                rw [ownS_len g2, hj]
                exact l
          · cases z
        · cases z
      · cases z
    · cases z
  · cases z
/-! ### one object of one's own is written -/
/-- the run that writes one list -/
theorem st_lstop {K : PySem.W.Frag} {Hs H : Hp} {a : Addr} {xs xs' : List V} {ds' : List PyData} {vs : Nat → Option V} {tk : List Lk} (s : Same Hs H) (nd : NoD Hs) (ha : Hs a = none) (e : H a = some (.lst xs)) (d : DpAll K Hs xs' ds') : St9 K ⟨Hs, H, (· ∈ [a]), vs, tk, []⟩ Hs (upd H a (.lst xs')) [(.ref a, .lst ds')] := by
  refine ⟨fun b u z => ?_, nd, ⟨[a] ++ [], .cons (.lst upd_same d) .nil, by simp, fun b m => ?_⟩, .refl _, fun _ _ z => .inl z, fun b u z w _ => ?_, fun p hp => absurd hp (by simp)⟩
  · have : b ≠ a := fun q => by subst q; rw [ha] at z; cases z
    rw [upd_ne this]; exact s b u z
  · have z : b = a := by simpa using m
    subst z; exact ⟨ha, .inr (by simp)⟩
  · have : b ≠ a := fun q => w (by simp [q])
    rw [upd_ne this]; exact z
/-- a list at a place: what stands there, and how it is written -/
theorem env_lst {K : PySem.W.Frag} {g : Gh} {Hs H : Hp} {T : List VR} {σ : St} {ρ : En} {p : Nat × List Pe} {ds : List PyData} {v u : V} (env : EnvAt K mk g Hs H T σ ρ) (hx : atP ρ p = some (.lst ds)) (hv : σ[p.1]? = some (some v)) (w : Way H v p.2 u) :
    ∃ a xs, u = .ref a ∧ H a = some (.lst xs) ∧ DpAll K Hs xs ds ∧ ∀ xs' ds', DpAll K Hs xs' ds' → EnvAt K mk g Hs (upd H a (.lst xs')) T σ (upS ρ p.1 p.2 (.lst ds')) := by
  obtain ⟨r, h1, h2⟩ := atP_some hx
  obtain ⟨v', u', hv', w', e1, close⟩ := env_part env h1 h2
  rw [hv] at hv'; cases hv'
  have := way_inj w w'
  subst this
  obtain ⟨fpP, oP, nP, fP, q, run⟩ := env_run (P := [(u, .lst ds)]) e1
  have sub := q.sub
  have nod := q.nod
  cases oP with
  | cons o t =>
    cases t
    cases o with
    | lst ha d =>
      rename_i a xs
      refine ⟨a, xs, rfl, ha, d, fun xs' ds' d' => ?_⟩
      obtain ⟨e2, ways⟩ := run (fun _ => none) Hs (upd H a (.lst xs')) _ g.tk (fun _ _ z => z) (st_lstop sub nod (fP a (by simp)) ha d')
      have hl := (List.getElem?_eq_some_iff.mp h1).1
      have hc : (clA (ρ.set p.1 (.ow (setP r p.2 .un))))[p.1]? = some (.ow (setP r p.2 .un)) := by rw [clA_get, List.getElem?_set_self hl]; rfl
      exact close Hs _ (.lst ds') T (.refl _) (ways p.1 v _ p.2 _ .un hv hc (getP_setP h2).1 w) e2
/-- a method of a list at a place -/
def lmE (f : List PyData → List PyData → Option (PyData × List PyData)) (sp : FP) (ss : En → Option (Rz (List PyData))) : En → Option Oe := fun ρ => match sp ρ, okk (ss ρ) with
  | some p, some as => (match atP ρ p with
    | some (.lst ds) => (match f ds as with
      | some (y, ds') => some (.ok (.da y) (upS ρ p.1 p.2 (.lst ds')))
      | none => none)
    | _ => none)
  | _, _ => none
theorem se_lm {name : Str} {id : String} {r : V → List V → Hp → VK → Prop} {f : List PyData → List PyData → Option (PyData × List PyData)} {ss : En → Option (Rz (List PyData))} (slot : Slot "list" name id) (hty : typeOf (.builtin id) = pure (.type "method_descriptor")) (hm : MtR X id r) (ho : SP X o sp) (ha : SDs X W (e :: es) ss)
    (hf : ∀ ds as y ds' l xs vs Hs H Q, f ds as = some (y, ds') → Same Hs H → H l = some (.lst xs) → DpAll X.K Hs xs ds → DpAll X.K Hs vs as → (∀ u xs', Dp X.K Hs u y → DpAll X.K Hs xs' ds' → Q u (upd H l (.lst xs'))) → r (.ref l) vs H Q)
    (hbase : attributeBase o name X.env (eval o X.env) = eval o X.env := by rfl)
    (hfew : ((backTo cpos (starEach (e :: es) X.env)).all (fun x => !x.1) && (backToKw cpos (keywordEach [] X.env)).all (fun x => x.1.isSome)
        && decide ((e :: es).length + ([] : List Keyword).length + (if ([] : List Keyword).isEmpty then 0 else 1) < 30)) = true := by rfl)
    (hline : (apos.endLine == cpos.line) = true := by rfl) (hs : starEach (e :: es) X.env = (false, eval e X.env) :: starEach es X.env := by rfl) (hplain : (backTo cpos (starEach es X.env)).any (·.1) = false := by rfl) :
    SE X mk W (.Call (.Attribute o name apos) (e :: es) [] cpos) (lmE f sp ss) := by
  refine ⟨fun ρ x ρ1 z => ?_, fun ρ cc ρ1 z => ?_⟩ <;> unfold lmE at z <;> split at z
  · rename_i p as q1 q2
    split at z
    · rename_i ds q3
      split at z
      · rename_i y ds' q4
        cases z
        refine pe_imp (pe_bm PySem.F.plainAttrs_list slot hty hm (ho _ _ q1).2 (ha.ok _ _ (okk_some q2)) hbase hfew hline hs hplain) fun σ H Q ⟨g, Hs, T, env, k⟩ => ⟨Hs, _, env_q env, fun v u Hs1 H1 hv e1 w => ?_⟩
        obtain ⟨a, xs, rfl, g1, g2, _⟩ := env_lst (env_ext e1 env) q3 hv w
        refine ⟨.inl ⟨rfl, xs, SqL.of g1⟩, Hs1, _, env_q (env_ext e1 env), fun vs Hs2 H2 e2 dvs => ?_⟩
        obtain ⟨a', xs', e', g1', g2', close⟩ := env_lst (env_ext e2 (env_ext e1 env)) q3 hv (way_mono e2.all w)
        cases e'
        exact hf ds as y ds' a xs' vs Hs2 H2 Q q4 e2.sub g1' g2' dvs fun u xs3 du d3 => k u Hs2 _ (e1.data.trans e2.data) (env_push (close _ _ d3) du)
      · cases z
    · cases z
  · cases z
  · split at z
    · split at z <;> cases z
    · cases z
  · cases z
theorem se_lm0 {name : Str} {id : String} {r : V → List V → Hp → VK → Prop} {f : List PyData → List PyData → Option (PyData × List PyData)} (slot : Slot "list" name id) (hty : typeOf (.builtin id) = pure (.type "method_descriptor")) (hm : MtR X id r) (ho : SP X o sp)
    (hf : ∀ ds y ds' l xs Hs H Q, f ds [] = some (y, ds') → Same Hs H → H l = some (.lst xs) → DpAll X.K Hs xs ds → (∀ u xs', Dp X.K Hs u y → DpAll X.K Hs xs' ds' → Q u (upd H l (.lst xs'))) → r (.ref l) [] H Q)
    (hbase : attributeBase o name X.env (eval o X.env) = eval o X.env := by rfl) (hline : (apos.endLine == cpos.line) = true := by rfl) : SE X mk W (.Call (.Attribute o name apos) [] [] cpos) (lmE f sp nilD) := by
  refine ⟨fun ρ x ρ1 z => ?_, fun ρ cc ρ1 z => ?_⟩ <;> unfold lmE at z <;> split at z
  · rename_i p as q1 q2
    cases q2
    split at z
    · rename_i ds q3
      split at z
      · rename_i y ds' q4
        cases z
        refine pe_imp (pe_bm0 PySem.F.plainAttrs_list slot hty hm (ho _ _ q1).2 hbase hline) fun σ H Q ⟨g, Hs, T, env, k⟩ => ⟨Hs, _, env_q env, fun v u Hs1 H1 hv e1 w => ?_⟩
        obtain ⟨a, xs, rfl, g1, g2, close⟩ := env_lst (env_ext e1 env) q3 hv w
        exact ⟨.inl ⟨rfl, xs, SqL.of g1⟩, hf ds y ds' a xs Hs1 H1 Q q4 e1.sub g1 g2 fun u xs3 du d3 => k u Hs1 _ e1.data (env_push (close _ _ d3) du)⟩
      · cases z
    · cases z
  · cases z
  · split at z
    · split at z <;> cases z
    · cases z
  · cases z
def appF (ds as : List PyData) : Option (PyData × List PyData) := match as with
  | [d] => if ds.length < sizeLine then some (.none, ds ++ [d]) else none
  | _ => none
theorem appF_r {ds as : List PyData} {y : PyData} {ds' : List PyData} {l : Addr} {xs vs : List V} {Hs H : Hp} {Q : VK} (h : appF ds as = some (y, ds')) (s : Same Hs H) (g : H l = some (.lst xs)) (d : DpAll X.K Hs xs ds) (dv : DpAll X.K Hs vs as) (k : ∀ u xs', Dp X.K Hs u y → DpAll X.K Hs xs' ds' → Q u (upd H l (.lst xs'))) : rAppend (.ref l) vs H Q := by
  unfold appF at h
  split at h
  · split at h
    · rename_i hz
      cases h
      obtain ⟨v, rfl, q⟩ := dpAll_1 dv
      exact ⟨l, xs, v, rfl, rfl, g, by rw [dpAll_length d]; exact hz, k _ _ .non (dpAll_append d (.cons q .nil))⟩
    · cases h
  · cases h
theorem se_append (ho : SP X o sp) (hd : SD X W e sd) (hbase : attributeBase o "append" X.env (eval o X.env) = eval o X.env := by rfl)
    (hfew : ((backTo cpos (starEach (e :: []) X.env)).all (fun x => !x.1) && (backToKw cpos (keywordEach [] X.env)).all (fun x => x.1.isSome)
        && decide ((e :: ([] : List Expr)).length + ([] : List Keyword).length + (if ([] : List Keyword).isEmpty then 0 else 1) < 30)) = true := by rfl)
    (hline : (apos.endLine == cpos.line) = true := by rfl) (hs : starEach (e :: []) X.env = (false, eval e X.env) :: starEach [] X.env := by rfl) (hplain : (backTo cpos (starEach [] X.env)).any (·.1) = false := by rfl) :
    SE X mk W (.Call (.Attribute o "append" apos) [e] [] cpos) (lmE appF sp (consD sd nilD)) :=
  se_lm PySem.F.slot_list_append PySem.F.type_list_append mt_append ho (sds_cons hd sds_nil hs) (fun ds as y ds' l xs vs Hs H Q h s g d dv k => appF_r h s g d dv k) hbase hfew hline hs hplain
def extF (ds as : List PyData) : Option (PyData × List PyData) := match as with
  | [.list d] => if ds.length + d.length ≤ sizeLine then some (.none, ds ++ d) else none
  | _ => none
theorem se_extend (ho : SP X o sp) (hd : SD X W e sd) (hbase : attributeBase o "extend" X.env (eval o X.env) = eval o X.env := by rfl)
    (hfew : ((backTo cpos (starEach (e :: []) X.env)).all (fun x => !x.1) && (backToKw cpos (keywordEach [] X.env)).all (fun x => x.1.isSome)
        && decide ((e :: ([] : List Expr)).length + ([] : List Keyword).length + (if ([] : List Keyword).isEmpty then 0 else 1) < 30)) = true := by rfl)
    (hline : (apos.endLine == cpos.line) = true := by rfl) (hs : starEach (e :: []) X.env = (false, eval e X.env) :: starEach [] X.env := by rfl) (hplain : (backTo cpos (starEach [] X.env)).any (·.1) = false := by rfl) :
    SE X mk W (.Call (.Attribute o "extend" apos) [e] [] cpos) (lmE extF sp (consD sd nilD)) :=
  se_lm PySem.F.slot_list_extend PySem.F.type_list_extend mt_extend ho (sds_cons hd sds_nil hs) (fun ds as y ds' l xs vs Hs H Q h s g d dv k => by
    unfold extF at h
    split at h
    · split at h
      · rename_i hz
        cases h
        obtain ⟨v, rfl, q⟩ := dpAll_1 dv
        obtain ⟨b, zs, rfl, g2, d2⟩ := dp_lst q
        exact ⟨l, b, xs, zs, rfl, rfl, g, s _ _ g2, by rw [dpAll_length d, dpAll_length d2]; exact hz, k _ _ .non (dpAll_append d d2)⟩
      · cases h
    · cases h) hbase hfew hline hs hplain
noncomputable def insF (ds as : List PyData) : Option (PyData × List PyData) := match as with
  | [.int i, d] => @ite _ (ds.length < sizeLine ∧ 0 ≤ i ∧ i < 2 ^ 63) (Classical.propDecidable _) (some (.none, ds.take i.toNat ++ [d] ++ ds.drop i.toNat)) none
  | _ => none
theorem se_insert (ho : SP X o sp) (hd : SD X W a sd) (hd2 : SD X W b sd') (hbase : attributeBase o "insert" X.env (eval o X.env) = eval o X.env := by rfl)
    (hfew : ((backTo cpos (starEach (a :: [b]) X.env)).all (fun x => !x.1) && (backToKw cpos (keywordEach [] X.env)).all (fun x => x.1.isSome)
        && decide ((a :: [b]).length + ([] : List Keyword).length + (if ([] : List Keyword).isEmpty then 0 else 1) < 30)) = true := by rfl)
    (hline : (apos.endLine == cpos.line) = true := by rfl) (hs : starEach (a :: [b]) X.env = (false, eval a X.env) :: starEach [b] X.env := by rfl) (hs2 : starEach (b :: []) X.env = (false, eval b X.env) :: starEach [] X.env := by rfl) (hplain : (backTo cpos (starEach [b] X.env)).any (·.1) = false := by rfl) :
    SE X mk W (.Call (.Attribute o "insert" apos) [a, b] [] cpos) (lmE insF sp (consD sd (consD sd' nilD))) :=
  se_lm PySem.F.slot_list_insert PySem.F.type_list_insert mt_insert ho (sds_cons hd (sds_cons hd2 sds_nil hs2) hs) (fun ds as y ds' l xs vs Hs H Q h s g d dv k => by
    unfold insF at h
    split at h
    · split at h
      · rename_i hz
        cases h
        obtain ⟨v, w, rfl, q, q2⟩ := dpAll_2 dv
        rw [dp_int q]
        exact ⟨l, xs, _, w, rfl, rfl, g, by rw [dpAll_length d]; exact hz.1, hz.2.1, hz.2.2, k _ _ .non (dpAll_append (dpAll_append (dpAll_take _ d) (.cons q2 .nil)) (dpAll_drop _ d))⟩
      · cases h
    · cases h) hbase hfew hline hs hplain
def popF (ds _as : List PyData) : Option (PyData × List PyData) := (ds[ds.length - 1]?).map fun d => (d, ds.dropLast)
noncomputable def popIF (ds as : List PyData) : Option (PyData × List PyData) := match as with
  | [.int i] => @ite _ (-(2 ^ 63) ≤ i ∧ i < 2 ^ 63) (Classical.propDecidable _) (match seqIndex? i ds.length with
    | some k => (ds[k]?).map fun d => (d, ds.eraseIdx k)
    | none => none) none
  | _ => none
theorem dpAll_dropLast {K : PySem.W.Frag} {H : Hp} {xs : List V} {ds : List PyData} (h : DpAll K H xs ds) : DpAll K H xs.dropLast ds.dropLast := by
  rw [List.dropLast_eq_take, List.dropLast_eq_take, dpAll_length h]
  exact dpAll_take _ h
theorem se_pop0 (ho : SP X o sp) (hbase : attributeBase o "pop" X.env (eval o X.env) = eval o X.env := by rfl) (hline : (apos.endLine == cpos.line) = true := by rfl) : SE X mk W (.Call (.Attribute o "pop" apos) [] [] cpos) (lmE popF sp nilD) :=
  se_lm0 PySem.F.slot_list_pop PySem.F.type_list_pop mt_pop ho (fun ds y ds' l xs Hs H Q h s g d k => by
    obtain ⟨z, hz, e⟩ := map_some h
    cases e
    obtain ⟨v, hv, q⟩ := dpAll_get d hz
    exact ⟨l, xs, v, rfl, rfl, g, by rw [dpAll_length d]; exact hv, k _ _ q (dpAll_dropLast d)⟩) hbase hline
theorem se_clear (ho : SP X o sp) (hbase : attributeBase o "clear" X.env (eval o X.env) = eval o X.env := by rfl) (hline : (apos.endLine == cpos.line) = true := by rfl) : SE X mk W (.Call (.Attribute o "clear" apos) [] [] cpos) (lmE (fun _ _ => some (.none, [])) sp nilD) :=
  se_lm0 PySem.F.slot_list_clear PySem.F.type_list_clear mt_clear ho (fun ds y ds' l xs Hs H Q h s g d k => by
    cases h
    exact ⟨l, xs, rfl, rfl, g, k _ _ .non .nil⟩) hbase hline
theorem se_reverse (ho : SP X o sp) (hbase : attributeBase o "reverse" X.env (eval o X.env) = eval o X.env := by rfl) (hline : (apos.endLine == cpos.line) = true := by rfl) : SE X mk W (.Call (.Attribute o "reverse" apos) [] [] cpos) (lmE (fun ds _ => some (.none, ds.reverse)) sp nilD) :=
  se_lm0 PySem.F.slot_list_reverse PySem.F.type_list_reverse mt_reverse ho (fun ds y ds' l xs Hs H Q h s g d k => by
    cases h
    exact ⟨l, xs, rfl, rfl, g, k _ _ .non (dpAll_reverse d)⟩) hbase hline
theorem se_popI (ho : SP X o sp) (hd : SD X W e sd) (hbase : attributeBase o "pop" X.env (eval o X.env) = eval o X.env := by rfl)
    (hfew : ((backTo cpos (starEach (e :: []) X.env)).all (fun x => !x.1) && (backToKw cpos (keywordEach [] X.env)).all (fun x => x.1.isSome)
        && decide ((e :: ([] : List Expr)).length + ([] : List Keyword).length + (if ([] : List Keyword).isEmpty then 0 else 1) < 30)) = true := by rfl)
    (hline : (apos.endLine == cpos.line) = true := by rfl) (hs : starEach (e :: []) X.env = (false, eval e X.env) :: starEach [] X.env := by rfl) (hplain : (backTo cpos (starEach [] X.env)).any (·.1) = false := by rfl) :
    SE X mk W (.Call (.Attribute o "pop" apos) [e] [] cpos) (lmE popIF sp (consD sd nilD)) :=
  se_lm PySem.F.slot_list_pop PySem.F.type_list_pop mt_popAt ho (sds_cons hd sds_nil hs) (fun ds as y ds' l xs vs Hs H Q h s g d dv k => by
    unfold popIF at h
    split at h
    · rename_i i
      split at h
      · rename_i hz
        split at h
        · rename_i kk hk
          obtain ⟨z, hy, e⟩ := map_some h
          cases e
          obtain ⟨v, rfl, q⟩ := dpAll_1 dv
          rw [dp_int q]
          obtain ⟨w, hw, qw⟩ := dpAll_get d hy
          exact ⟨l, xs, i, kk, w, rfl, rfl, g, hz.1, hz.2, by rw [dpAll_length d]; exact hk, hw, k _ _ qw (dpAll_eraseIdx kk d)⟩
        · cases h
      · cases h
    · cases h) hbase hfew hline hs hplain
end
end Cg

/-! Stores: fields, items. -/
namespace Cg
open PySem L2
section
variable {K : PySem.W.Frag} {mk : List Bool} {g : Gh} {Hs Hs' H H' : Hp} {T : List VR} {σ : St} {ρ : En}
/-- a thing whose first object is written, while others join it -/
theorem st_objop {a : Addr} {o : HO} {x' : Rs} {fpP fp' : List Addr} {vs : Nat → Option V} {tk : List Lk} {M : List VR} (s : Same Hs H) (nd : NoD Hs) (hP : ∀ b ∈ fpP, Hs b = none) (ha : a ∈ fpP) (ow : OwnL K (.own []) Hs (upd H a o) ((.ref a, x') :: M) fp') (n : fp'.Nodup) (sub : ∀ b ∈ fp', b ∈ fpP) :
    St9 K ⟨Hs, H, (· ∈ fpP), vs, tk, []⟩ Hs (upd H a o) ((.ref a, x') :: M) := by
  refine ⟨fun b u z => ?_, nd, ⟨fp', ow, n, fun b m => ⟨hP b (sub b m), .inr (sub b m)⟩⟩, .refl _, fun _ _ z => .inl z, fun b u z w _ => ?_, fun p hp => absurd hp (by simp)⟩
  · have : b ≠ a := fun q => by subst q; rw [hP b ha] at z; cases z
    rw [upd_ne this]; exact s b u z
  · have : b ≠ a := fun q => w (by rw [q]; exact ha)
    rw [upd_ne this]; exact z
/-- the general store: the object at a place is written, the thing on top of the others may join it -/
theorem env_store {p : Nat × List Pe} {x y : Rs} {v u w0 : V} (env : EnvAt K mk g Hs H ((w0, y) :: T) σ ρ) (hx : atP ρ p = some x) (hv : σ[p.1]? = some (some v)) (w : Way H v p.2 u) :
    ∃ fpx fpy, Own K (.own []) Hs H u x fpx ∧ Own K (.own []) Hs H w0 y fpy ∧ (fpx ++ fpy).Nodup ∧ ∀ (a : Addr) (o : HO) (x' : Rs) (fp' : List Addr) (M : List VR), u = .ref a → a ∈ fpx → OwnL K (.own []) Hs (upd H a o) ((u, x') :: M) fp' → fp'.Nodup → (∀ b ∈ fp', b ∈ fpx ++ fpy) →
      EnvAt K mk g Hs (upd H a o) (M ++ T) σ (upS ρ p.1 p.2 x') := by
  obtain ⟨r, h1, h2⟩ := atP_some hx
  obtain ⟨v', u', hv', w', e1, close⟩ := env_part env h1 h2
  rw [hv] at hv'; cases hv'
  have := way_inj w w'
  subst this
  obtain ⟨fpP, oP, nP, fP, q, run⟩ := env_run (P := [(u, x), (w0, y)]) e1
  have sub := q.sub
  have nod := q.nod
  cases oP with
  | cons ox t =>
    cases t with
    | cons oy t =>
      cases t
      rename_i fpx fpy
      rw [List.append_nil] at nP fP run
      refine ⟨fpx, fpy, ox, oy, nP, fun a o x' fp' M eu ha ow n sb => ?_⟩
      subst eu
      obtain ⟨e2, ways⟩ := run (fun _ => none) Hs (upd H a o) _ [] (fun _ _ z => by simp at z) (st_objop sub nod fP (by simp [ha]) ow n sb)
      have hl := (List.getElem?_eq_some_iff.mp h1).1
      have hc : (clA (ρ.set p.1 (.ow (setP r p.2 .un))))[p.1]? = some (.ow (setP r p.2 .un)) := by rw [clA_get, List.getElem?_set_self hl]; rfl
      exact close Hs _ x' (M ++ T) (.refl _) (ways p.1 v _ p.2 _ .un hv hc (getP_setP h2).1 w) e2
theorem perm_sub {a b c : List Addr} (p : a.Perm (b ++ c)) {d : List Addr} (n : (a ++ d).Nodup) : (d ++ c).Nodup := by
  have h1 : ((b ++ c) ++ d).Nodup := (p.append_right d).nodup n
  rw [List.append_assoc] at h1
  have h2 := (List.nodup_append.mp h1).2.1
  exact (List.perm_append_comm).nodup h2
end
section
variable {X : Cx} {mk : List Bool} {W : WX} {e a b c o ix : Expr} {es : List Expr} {pos pp apos cpos tpos : Pos} {s : FE} {sd sd' : FD} {sp : FP} {se : En → Option Oe} {st : Stmt} {s1 s2 : FS} {se1 se2 : En → Option Oe}
def orS (s1 s2 : FS) : FS := fun ρ => match s1 ρ with
  | none => s2 ρ
  | r => r
theorem ss_or (h1 : SS X mk W st s1) (h2 : SS X mk W st s2) : SS X mk W st (orS s1 s2) := fun ρ o z => by
  unfold orS at z
  split at z
  · exact h2 _ _ z
  · exact h1 _ _ z
def orE (s1 s2 : En → Option Oe) : En → Option Oe := fun ρ => match s1 ρ with
  | none => s2 ρ
  | r => r
theorem se_or (h1 : SE X mk W e se1) (h2 : SE X mk W e se2) : SE X mk W e (orE se1 se2) := by
  refine ⟨fun ρ x ρ1 z => ?_, fun ρ x ρ1 z => ?_⟩ <;> unfold orE at z <;> split at z
  · exact h2.ok _ _ _ z
  · exact h1.ok _ _ _ z
  · exact h2.ex _ _ _ z
  · exact h1.ex _ _ _ z
/-! ### o.f = e -/
def fldS (cn f : Str) (sp : FP) (se : En → Option Oe) : FS := fun ρ => match se ρ with
  | some (.ok y ρ1) => (match sp ρ1 with
    | some p => (match atP ρ1 p with
      | some (.ins c fs) => if c = cn ∧ fs.length < 1000 then some (.nx (upS ρ1 p.1 p.2 (.ins c (putR f y fs)))) else none
      | _ => none)
    | none => none)
  | some (.ex c ρ1) => some (.ex c ρ1)
  | none => none
theorem ss_fld {cn f : Str} (cl : Cls X.K (He.ga X.K cn)) (na : NoAttr X.K (He.ga X.K cn) f) (ho : SP X o sp) (he : SE X mk W e se) (hs : swapsWith e (some (.Attribute o f apos)) pos.line X.env = pure false := by rfl) : SS X mk W (.Assign [.Attribute o f apos] e pos) (fldS cn f sp se) := fun ρ ou z => by
  unfold fldS at z
  split at z
  · rename_i y ρ1 q
    split at z
    · rename_i p q1
      split at z
      · rename_i cc fs q2
        split at z
        · rename_i hc
          obtain ⟨rfl, hl⟩ := hc
          cases z
          refine ps_imp (ps_fld (ho _ _ q1).2 (he.ok _ _ _ q) hs) fun D σ H ⟨g, Hs, env, k⟩ => ⟨g, Hs, [], env, fun w Hs1 H1 s1 e1 => ⟨Hs1, _, env_q e1, fun v u Hs2 H2 hv e2 wy => ?_⟩⟩
          obtain ⟨fpx, fpy, ox, oy, nn, close⟩ := env_store (env_ext e2 e1) q2 hv wy
          cases ox with
          | ins g1 g2 =>
            rename_i aa dx fv fpF
            refine ⟨aa, _, dx, fv, rfl, g1, cl, na, by rw [ownF_len g2]; exact hl, k σ Hs2 _ (s1.trans e2.data) ?_⟩
            have nn' : (aa :: (fpF ++ fpy)).Nodup := nn
            obtain ⟨na1, nF⟩ := List.nodup_cons.mp nn'
            have keepF : ∀ b ∈ fpF, ∀ u, H2 b = some u → upd H2 aa (.ins (He.ga X.K cc) dx (putF f w fv)) b = some u := fun b m u z => by
              rw [upd_ne (fun q => na1 (by simp [← q, m]))]; exact z
            have oy' : Own X.K (.own []) Hs2 (upd H2 aa (.ins (He.ga X.K cc) dx (putF f w fv))) w y fpy := own_mono (.refl _) oy fun b m u z => by
              rw [upd_ne (fun q => na1 (by simp [← q, m]))]; exact z
            have g2' := ownF_mono (.refl _) g2 keepF
            cases hq : fs.lookup f with
            | some z0 =>
              obtain ⟨u0, fpo, fpc, l0, o0, pm, cl0⟩ := ownF_foc g2' hq
              obtain ⟨fq, of, pq⟩ := cl0 Hs2 _ w y fpy (.refl _) (fun _ _ _ z => z) oy'
              have nq : (aa :: fq).Nodup := List.nodup_cons.mpr ⟨fun m => na1 (by
                rcases List.mem_append.mp (pq.mem_iff.mp m) with m | m
                · simp [m]
                · simp [pm.mem_iff, m]), pq.symm.nodup (perm_sub pm nF)⟩
              have := close aa _ (.ins cc (putR f y fs)) ((aa :: fq) ++ []) [] rfl (by simp) (.cons (.ins upd_same of) .nil) (by simpa using nq) (fun b m => by
                rcases List.mem_cons.mp (by simpa using m) with rfl | m
                · simp
                · rcases List.mem_append.mp (pq.mem_iff.mp m) with m | m
                  · simp [m]
                  · simp [pm.mem_iff, m])
              simpa using this
            | none =>
              obtain ⟨_, fq, of, pq⟩ := ownF_add g2' hq oy'
              have nq : (aa :: fq).Nodup := List.nodup_cons.mpr ⟨fun m => na1 (by
                rcases List.mem_append.mp (pq.mem_iff.mp m) with m | m <;> simp [m]), pq.symm.nodup (List.perm_append_comm.nodup nF)⟩
              have := close aa _ (.ins cc (putR f y fs)) ((aa :: fq) ++ []) [] rfl (by simp) (.cons (.ins upd_same of) .nil) (by simpa using nq) (fun b m => by
                rcases List.mem_cons.mp (by simpa using m) with rfl | m
                · simp
                · rcases List.mem_append.mp (pq.mem_iff.mp m) with m | m <;> simp [m])
              simpa using this
        · cases z
      · cases z
    · cases z
  · rename_i q
    cases z
    exact ps_imp (ps_fld (pe_never (e := o)) (he.ex _ _ _ q) hs) fun D σ H ⟨g, Hs, env, k⟩ => ⟨g, Hs, [], env, fun Hs1 H1 s1 e1 => k σ Hs1 H1 s1 e1⟩
  · cases z
/-! ### d[k] = e -/
theorem putK_cons_pos {k k' : Key} {v w : V} {r : List (Key × V)} (h : k' = k) (nd : ¬ k ∈ r.map (·.1)) : putK ((k', w) :: r) k v = (k', v) :: r := by
  unfold putK
  rw [if_pos (by simp [h])]
  rw [List.map_cons, if_pos h]
  congr 1
  conv => rhs; rw [← List.map_id r]
  refine List.map_congr_left fun p hp => ?_
  rw [if_neg (fun e => nd (List.mem_map.mpr ⟨p, hp, e⟩))]
  rfl
theorem putK_cons_neg {k k' : Key} {v w : V} {r : List (Key × V)} (h : ¬ k' = k) : putK ((k', w) :: r) k v = (k', w) :: putK r k v := by
  unfold putK
  rw [List.any_cons, decide_eq_false h, Bool.false_or]
  split
  · rw [List.map_cons, if_neg h]
  · rfl
theorem ownK_put {K : PySem.W.Frag} {m : Mo} {Hs H : Hp} {k : Key} {w : V} {y : Rs} {fpy : List Addr} : ∀ {kv : List (Key × V)} {ks : List (Key × Rs)} {fp : List Addr}, OwnK K m Hs H kv ks fp → (kv.map (·.1)).Nodup → Own K m Hs H w y fpy → ∃ fp' fpc, OwnK K m Hs H (putK kv k w) (setR k y ks) fp' ∧ ((putK kv k w).map (·.1)).Nodup ∧ fp'.Perm (fpy ++ fpc) ∧ ∃ fpo, fp.Perm (fpo ++ fpc)
  | _, _, _, .nil, _, o => ⟨fpy ++ [], [], .cons o .nil, by simp [putK], .refl _, [], .refl _⟩
  | _, _, _, .cons (k := k') (v := v) (r := r) (fp := fp) (fps := fps) (t := t) (u := us) h ht, nd, o => by
    have nd' : ¬ k' ∈ t.map (·.1) ∧ (t.map (·.1)).Nodup := List.nodup_cons.mp nd
    by_cases hk : k' = k
    · rw [putK_cons_pos hk (by rw [← hk]; exact nd'.1), setR, if_pos hk]
      exact ⟨fpy ++ fps, fps, .cons o ht, nd, .refl _, fp, .refl _⟩
    · obtain ⟨fp', fpc, q1, q2, q3, fpo, q4⟩ := ownK_put ht nd'.2 o
      rw [putK_cons_neg hk, setR, if_neg hk]
      refine ⟨fp ++ fp', fp ++ fpc, .cons h q1, ?_, (q3.append_left fp).trans perm_mid, fpo, (q4.append_left fp).trans perm_mid⟩
      refine List.nodup_cons.mpr ⟨fun m => ?_, q2⟩
      have mem : ∀ (l : List (Key × V)) (z : Key), z ∈ (putK l k w).map (·.1) → z ∈ l.map (·.1) ∨ z = k := by
        intro l z hz
        unfold putK at hz
        split at hz
        · rw [List.map_map] at hz
          obtain ⟨p, hp, e⟩ := List.mem_map.mp hz
          refine .inl (List.mem_map.mpr ⟨p, hp, ?_⟩)
          rw [← e]
          simp only [Function.comp]
          split <;> rfl
        · rw [List.map_append] at hz
          rcases List.mem_append.mp hz with z1 | z1
          · exact .inl z1
          · exact .inr (by simpa using z1)
      rcases mem t k' m with z | z
      · exact nd'.1 z
      · exact hk z
def dputS (sp : FP) (sd : FD) (se : En → Option Oe) : FS := fun ρ => match se ρ with
  | some (.ok y ρ1) => (match sp ρ1, okk (sd ρ1) with
    | some p, some d => (match atP ρ1 p, keyD d with
      | some (.dct 0 kvs), some k => if kvs.length < sizeLine then some (.nx (upS ρ1 p.1 p.2 (.dct 0 (setR k y kvs)))) else none
      | _, _ => none)
    | _, _ => none)
  | some (.ex c ρ1) => some (.ex c ρ1)
  | none => none
theorem ss_dput {k : Nat} (hr : Room k X.A) (ho : SP X o sp) (hd : SD X W ix sd) (he : SE X mk W e se) (hs : swapsWith e (some (.Subscript o ix tpos)) pos.line X.env = pure false := by rfl) : SS X mk W (.Assign [.Subscript o ix tpos] e pos) (dputS sp sd se) := fun ρ ou z => by
  unfold dputS at z
  split at z
  · rename_i y ρ1 q
    split at z
    · rename_i p d q1 qd
      split at z
      · rename_i kvs kk q2 hk
        split at z
        · rename_i hl
          cases z
          refine ps_imp (ps_dput (hu_of hr) (ho _ _ q1).2 (hd.ok _ _ (okk_some qd)) (he.ok _ _ _ q) hs) fun D σ H ⟨g, Hs, env, k⟩ => ⟨g, Hs, [], env, fun w Hs1 H1 s1 e1 => ⟨Hs1, _, env_q e1, fun v u Hs2 H2 hv e2 wy => tq_data (env_q (env_ext e2 e1)) fun wk Hs3 H3 e3 dk => ?_⟩⟩
          have wy3 := way_mono e3.all wy
          obtain ⟨fpx, fpy, ox, oy, nn, close⟩ := env_store (env_ext e3 (env_ext e2 e1)) q2 hv wy3
          cases ox with
          | dct g1 nk g2 =>
            rename_i aa kvv fpF
            have g1' : H3 aa = some (.dK kvv) := g1
            refine ⟨aa, _, rfl, .inl ⟨kvv, kk, g1', keyD_dp dk hk, by rw [ownK_len g2]; exact hl, rfl⟩, k σ Hs3 _ (s1.trans (e2.data.trans e3.data)) ?_⟩
            have nn' : (aa :: (fpF ++ fpy)).Nodup := nn
            obtain ⟨na1, nF⟩ := List.nodup_cons.mp nn'
            have oy' : Own X.K (.own []) Hs3 (upd H3 aa (.dK (putK kvv kk w))) w y fpy := own_mono (.refl _) oy fun b m u z => by
              rw [upd_ne (fun q => na1 (by simp [← q, m]))]; exact z
            have g2' : OwnK X.K (.own []) Hs3 (upd H3 aa (.dK (putK kvv kk w))) kvv kvs fpF := ownK_mono (.refl _) g2 fun b m u z => by
              rw [upd_ne (fun q => na1 (by simp [← q, m]))]; exact z
            obtain ⟨fq, fpc, of, nk', pq, fpo, pm⟩ := ownK_put (k := kk) g2' nk oy'
            have nq : (aa :: fq).Nodup := List.nodup_cons.mpr ⟨fun m => na1 (by
              rcases List.mem_append.mp (pq.mem_iff.mp m) with m | m
              · simp [m]
              · simp [pm.mem_iff, m]), pq.symm.nodup (perm_sub pm nF)⟩
            have := close aa (.dK (putK kvv kk w)) (.dct 0 (setR kk y kvs)) ((aa :: fq) ++ []) [] rfl (by simp) (.cons (.dct (n := 0) (show upd H3 aa _ aa = _ from upd_same) nk' of) .nil) (by simpa using nq) (fun b m => by
              rcases List.mem_cons.mp (by simpa using m) with rfl | m
              · simp
              · rcases List.mem_append.mp (pq.mem_iff.mp m) with m | m
                · simp [m]
                · simp [pm.mem_iff, m])
            simpa using this
        · cases z
      · cases z
    · cases z
  · rename_i q
    cases z
    exact ps_imp (ps_dput (hu_of hr) (pe_never (e := o)) (pe_never (e := ix)) (he.ex _ _ _ q) hs) fun D σ H ⟨g, Hs, env, k⟩ => ⟨g, Hs, [], env, fun Hs1 H1 s1 e1 => k σ Hs1 H1 s1 e1⟩
  · cases z
/-! ### l[i] = e -/
def lputS (sp : FP) (sd : FD) (sv : FD) : FS := fun ρ => match okk (sv ρ), sp ρ, okk (sd ρ) with
  | some y, some p, some (.int i) => (match atP ρ p with
    | some (.lst ds) => (match ixN ds.length i with
      | some j => some (.nx (upS ρ p.1 p.2 (.lst (ds.set j y))))
      | none => none)
    | _ => none)
  | _, _, _ => none
theorem ss_lput {sv : FD} (ho : SP X o sp) (hd : SD X W ix sd) (he : SD X W e sv)
    (ha : ∀ v, assign (.Subscript o ix tpos) X.env v = (do
        let ov ← holding [v] (eval o X.env)
        let iv ← holding [v, ov] (eval ix X.env)
        standAt tpos
        holding [v, ov, iv] (setItem ov iv v)
        release [v, ov, iv] []) := by intro _; rfl)
    (hs : swapsWithSole [.Subscript o ix tpos] e pos.line X.env = pure false := by rfl) (hw : swappedStores [.Subscript o ix tpos] e X.env = pure none := by rfl)
    (h1 : (assignEach [.Subscript o ix tpos] X.env).map (·.2) = [assign (.Subscript o ix tpos) X.env] := by rfl) :
    SS X mk W (.Assign [.Subscript o ix tpos] e pos) (lputS sp sd sv) := fun ρ ou z => by
  unfold lputS at z
  split at z
  · rename_i y p i q1 q2 q3
    split at z
    · rename_i ds q4
      split at z
      · rename_i j hj
        cases z
        refine ps_imp (ps_asg (he.ok _ _ (okk_some q1)) (pg_sub (ho _ _ q2).2 (hd.ok _ _ (okk_some q3)) set_list ha) hs hw h1) fun D σ H ⟨g, Hs, env, k⟩ => tq_data (env_q env) fun v Hs1 H1 e1 dv => ⟨Hs1, _, env_q (env_ext e1 env), fun v0 u Hs2 H2 hv e2 wy => tq_data (env_q (env_ext e2 (env_ext e1 env))) fun wk Hs3 H3 e3 dk => ?_⟩
        obtain ⟨a, xs, rfl, g1, g2, close⟩ := env_lst (env_ext e3 (env_ext e2 (env_ext e1 env))) q4 hv (way_mono e3.all wy)
        rw [dp_int dk]
        exact ⟨a, xs, _, j, rfl, rfl, g1, by rw [dpAll_length g2]; exact hj, k σ Hs3 _ (e1.data.trans (e2.data.trans e3.data)) (close _ _ (dpAll_set j g2 (dp_mono (e2.data.trans e3.data) dv)))⟩
      · cases z
    · cases z
  · cases z
end
end Cg

/-! Calls that change a thing. -/
namespace Cg
open PySem L2
/-- arguments beside one that is changed: data, or things read that stand apart from it -/
def tAm (K : PySem.W.Frag) (ρ ρh : En) (rs : List Rs) : TA := fun σ H Q => ∃ Hs av, EnvQ K Hs H (fun _ => False) σ ρ ∧ EnvQ K Hs H av σ ρh ∧ ∀ vs Hs' H', Ext Hs H Hs' H' → OwnQ K Hs' H' av vs rs → Q vs H'
abbrev FM := En → En → Option (Rz (List Rs))
structure SAm (X : Cx) (W : WX) (es : List Expr) (s : FM) : Prop where
  ok : ∀ ρ ρh rs, s ρ ρh = some (.ok rs) → PA X es (tAm X.K ρ ρh rs)
  ex : ∀ ρ ρh c, s ρ ρh = some (.ex c) → PA X es (fun σ H _ => ∃ Hs, EnvQ X.K Hs H (fun _ => False) σ ρ ∧ (∃ av, EnvQ X.K Hs H av σ ρh) ∧ ∀ Hs' H', Ext Hs H Hs' H' → W (clsV X.K c) none σ H')
section
variable {X : Cx} {mk : List Bool} {W : WX} {e a b c o ix : Expr} {es : List Expr} {pos pp apos cpos tpos : Pos} {s sa : FE} {sd sd' : FD} {sp sp' : FP} {se : En → Option Oe} {sm : FM}
def nilM : FM := fun _ _ => some (.ok [])
def argM (sa : FE) (ρ ρh : En) : Option (Rz Rs) := match sa ρ with
  | some (.ok (.da d)) => some (.ok (.da d))
  | some (.ex c) => some (.ex c)
  | _ => (okk (sa ρh)).map .ok
def consM (sa : FE) (sm : FM) : FM := fun ρ ρh => match argM sa ρ ρh with
  | some (.ok (.da d)) => bnz (sm ρ ρh) fun rs => some (.ok (.da d :: rs))
  | some (.ok r) => (match sm ρ ρh with
    | some (.ok rs) => some (.ok (r :: rs))
    | _ => none)
  | some (.ex c) => some (.ex c)
  | none => none
/-- the slots with a hole where the part was -/
def holeE (ρ : En) (p : Nat × List Pe) : En := clA (ρ.set p.1 (.ow (match ρ[p.1]? with
  | some (.ow r) => setP r p.2 .un
  | _ => .un)))
theorem sam_nil : SAm X W [] nilM := ⟨fun ρ ρh rs z => by cases z; exact pa_imp pa_nil fun σ H Q ⟨Hs, av, env, envh, k⟩ => k [] Hs H (.refl env.sub) .nil, fun ρ ρh c z => by cases z⟩
theorem argM_ok {ρ ρh : En} {r : Rs} (h : argM sa ρ ρh = some (.ok r)) : (∃ d, r = .da d ∧ sa ρ = some (.ok (.da d))) ∨ sa ρh = some (.ok r) := by
  unfold argM at h
  split at h
  · rename_i d q; cases h; exact .inl ⟨d, rfl, q⟩
  · cases h
  · obtain ⟨r', q3, q4⟩ := map_some h
    cases q4; exact .inr (okk_some q3)
theorem argM_ex {ρ ρh : En} {cn : Str} (h : argM sa ρ ρh = some (.ex cn)) : sa ρ = some (.ex cn) := by
  unfold argM at h
  split at h
  · cases h
  · rename_i q; cases h; exact q
  · obtain ⟨r', q3, q4⟩ := map_some h
    cases q4
theorem argM_da {ρ ρh : En} {d : PyData} (h : argM sa ρ ρh = some (.ok (.da d))) : sa ρ = some (.ok (.da d)) ∨ sa ρh = some (.ok (.da d)) := by
  rcases argM_ok h with ⟨d', e, q⟩ | q
  · cases e; exact .inl q
  · exact .inr q
theorem sam_step (h1 : SA X W e sa) (hs : starEach (e :: es) X.env = (false, eval e X.env) :: starEach es X.env) {ρ ρh : En} {r : Rs} {rs : List Rs} (q1 : argM sa ρ ρh = some (.ok r)) (q2 : PA X es (tAm X.K ρ ρh rs)) : PA X (e :: es) (tAm X.K ρ ρh (r :: rs)) := by
  rcases argM_ok q1 with ⟨d, rfl, q⟩ | q
  · exact pa_imp (pa_cons (h1.ok _ _ q) q2 hs) fun σ H Q ⟨Hs, av, env, envh, k⟩ => ⟨Hs, _, env, fun v Hs1 H1 fp e1 o n => ⟨Hs1, av, envQ_ext e1 env, envQ_ext e1 envh, fun vs Hs2 H2 e2 os => k (v :: vs) Hs2 H2 (e1.trans e2) (.cons (own_mono' e2.data e2.all o) (by cases o; simp) os)⟩⟩
  · exact pa_imp (pa_cons (h1.ok _ _ q) q2 hs) fun σ H Q ⟨Hs, av, env, envh, k⟩ => ⟨Hs, av, envh, fun v Hs1 H1 fp e1 o n => ⟨Hs1, av, envQ_ext e1 env, envQ_ext e1 envh, fun vs Hs2 H2 e2 os => k (v :: vs) Hs2 H2 (e1.trans e2) (.cons (own_mono' e2.data e2.all o) n os)⟩⟩
theorem sam_cons (h1 : SA X W e sa) (h2 : SAm X W es sm) (hs : starEach (e :: es) X.env = (false, eval e X.env) :: starEach es X.env := by rfl) : SAm X W (e :: es) (consM sa sm) := by
  refine ⟨fun ρ ρh rs z => ?_, fun ρ ρh cc z => ?_⟩ <;> unfold consM at z <;> split at z
  · rename_i d q1
    obtain ⟨rs', q2, z⟩ := bnz_ok z
    cases z
    exact sam_step h1 hs q1 (h2.ok _ _ _ q2)
  · rename_i r _ q1
    split at z
    · rename_i rs' q2
      cases z
      exact sam_step h1 hs q1 (h2.ok _ _ _ q2)
    · cases z
  · cases z
  · cases z
  · rename_i d q1
    rcases bnz_ex z with q2 | ⟨rs, q2, z⟩
    · rcases argM_ok q1 with ⟨d', e', q⟩ | q
      · exact pa_imp (pa_cons (h1.ok _ _ q) (h2.ex _ _ _ q2) hs) fun σ H Q ⟨Hs, env, envh, k⟩ => ⟨Hs, _, env, fun v Hs1 H1 fp e1 o n => ⟨Hs1, envQ_ext e1 env, envh.imp fun av q => envQ_ext e1 q, fun Hs' H' e' => k Hs' H' (e1.trans e')⟩⟩
      · exact pa_imp (pa_cons (h1.ok _ _ q) (h2.ex _ _ _ q2) hs) fun σ H Q ⟨Hs, env, envh, k⟩ => by
          obtain ⟨av, envh⟩ := envh
          exact ⟨Hs, _, envh, fun v Hs1 H1 fp e1 o n => ⟨Hs1, envQ_ext e1 env, ⟨av, envQ_ext e1 envh⟩, fun Hs' H' e' => k Hs' H' (e1.trans e')⟩⟩
    · cases z
  · split at z <;> cases z
  · rename_i q1
    cases z
    exact pa_imp (pa_cons (h1.ex _ _ (argM_ex q1)) (pa_never (es := es)) hs) fun σ H Q ⟨Hs, env, envh, k⟩ => ⟨Hs, _, env, k⟩
  · cases z
/-! ### one part is handed over -/
/-- the promise of a def whose first argument is changed, kept by a part of a slot's thing -/
theorem spM_part {K : PySem.W.Frag} {g : Gh} {Hs H : Hp} {T : List VR} {σ : St} {ρ : En} {p : Nat × List Pe} {x : Rs} {v u : V}
    (env : EnvAt K mk g Hs H T σ ρ) (hx : atP ρ p = some x) (hv : σ[p.1]? = some (some v)) (w : Way H v p.2 u) :
    ∃ av : Addr → Prop, EnvQ K Hs H av σ (holeE ρ p) ∧ ∀ {F : List Rs → Option Rt} {vs : List V} {rs : List Rs} {z : Rt} {Q : VK} {E : XK} {Hs1 H1 : Hp}, Ext Hs H Hs1 H1 → OwnQ K Hs1 H1 av vs rs → F (x :: rs) = some z → (match z with
      | .ok y ps => ∃ x' t, ps = x' :: t ∧ ∀ v' Hs' H', Same Hs1 Hs' → EnvAt K mk g Hs' H' ((v', y) :: T) σ (upS ρ p.1 p.2 x') → Q v' H'
      | .ex c ps => ∃ x' t, ps = x' :: t ∧ ∀ Hs' H', Same Hs1 Hs' → EnvAt K mk g Hs' H' T σ (upS ρ p.1 p.2 x') → E (clsV K c) none H') → spM K [true] F (u :: vs) H1 Q E := by
  unfold holeE
  obtain ⟨r, h1, h2⟩ := atP_some hx
  rw [h1]
  obtain ⟨v', u', hv', w', e1, close⟩ := env_part env h1 h2
  rw [hv] at hv'; cases hv'
  have := way_inj w w'
  subst this
  obtain ⟨fp0, oP0, nP0, fP0, q0, _⟩ := env_run (P := [(u, x)]) e1
  refine ⟨(· ∈ fp0), q0, fun {F vs rs z Q E Hs1 H1} ex os hF post => ?_⟩
  have e2 := env_ext ex e1
  obtain ⟨fpP, oP, nP, fP, q, run⟩ := env_run (P := [(u, x)]) e2
  have mem : ∀ b, b ∈ fpP ↔ b ∈ fp0 := fun b => ownL_fp oP (ownL_mono ex.data oP0 fun c _ o z => ex.all c o z) b
  have hl := (List.getElem?_eq_some_iff.mp h1).1
  have hc : (clA (ρ.set p.1 (.ow (setP r p.2 .un))))[p.1]? = some (.ow (setP r p.2 .un)) := by rw [clA_get, List.getElem?_set_self hl]; rfl
  refine ⟨Hs1, x :: rs, fpP, z, q.sub, q.nod, by simp [ownQ_len os], oP, nP, fP, fun i v2 r2 hi hv2 hr2 => ?_, hF, ?_⟩
  · cases i with
    | zero => exact absurd rfl hi
    | succ i =>
      obtain ⟨fq, oq, nq⟩ := ownQ_get (i := i) os (by simpa using hv2) (by simpa using hr2)
      exact ⟨fq, oq, fun b m m' => nq b m ((mem b).mp m')⟩
  · cases z with
    | ok y ps =>
      obtain ⟨x', t, rfl, post⟩ := post
      intro v2 Hs2 H2 s2 h2'
      obtain ⟨e3, ways⟩ := run _ Hs2 H2 _ [] (fun _ _ z => by simp at z) h2'
      refine post v2 Hs2 H2 s2 ?_
      have e4 : EnvAt K mk g Hs2 H2 ((u, x') :: ((v2, y) :: T)) σ (clA (ρ.set p.1 (.ow (setP r p.2 .un)))) := by
        refine env_perm ?_ e3
        show ((v2, y) :: sel [true] ((u, x') :: vs.zip t) ++ T).Perm _
        rw [show sel [true] ((u, x') :: vs.zip t) = [(u, x')] from by rw [sel, sel_nil]]
        exact .swap _ _ _
      exact close Hs2 H2 x' _ ((ex.data).trans s2) (ways p.1 v u p.2 _ .un hv hc (getP_setP h2).1 (way_mono ex.all w)) e4
    | ex cn ps =>
      obtain ⟨x', t, rfl, post⟩ := post
      intro Hs2 H2 s2 h2'
      obtain ⟨e3, ways⟩ := run _ Hs2 H2 _ [] (fun _ _ z => by simp at z) h2'
      refine post Hs2 H2 s2 ?_
      have e4 : EnvAt K mk g Hs2 H2 ((u, x') :: T) σ (clA (ρ.set p.1 (.ow (setP r p.2 .un)))) := by
        refine env_perm ?_ e3
        show (sel [true] ((u, x') :: vs.zip t) ++ T).Perm _
        rw [show sel [true] ((u, x') :: vs.zip t) = [(u, x')] from by rw [sel, sel_nil]]
        exact .refl _
      exact close Hs2 H2 x' _ ((ex.data).trans s2) (ways p.1 v u p.2 _ .un hv hc (getP_setP h2).1 (way_mono ex.all w)) e4
def outE (ρ : En) (p : Nat × List Pe) : Option Rt → Option Oe
  | some (.ok y (x' :: _)) => some (.ok y (upS ρ p.1 p.2 x'))
  | some (.ex c (x' :: _)) => some (.ex c (upS ρ p.1 p.2 x'))
  | _ => none
/-- o.m(..), which may change o -/
def mmE (cn m : Str) (F : List Rs → Option Rt) (sp : FP) (sm : FM) : En → Option Oe := fun ρ => match sp ρ with
  | some p => (match atP ρ p with
    | some x => if isC cn m x then (match sm ρ (holeE ρ p) with
      | some (.ok rs) => outE ρ p (F (x :: rs))
      | some (.ex c) => some (.ex c ρ)
      | none => none) else none
    | none => none)
  | none => none
theorem outE_ok {ρ ρ1 : En} {p : Nat × List Pe} {t : Option Rt} {x : Rs} (h : outE ρ p t = some (.ok x ρ1)) : ∃ x' l, t = some (.ok x (x' :: l)) ∧ ρ1 = upS ρ p.1 p.2 x' := by
  unfold outE at h
  split at h
  · cases h; exact ⟨_, _, rfl, rfl⟩
  · cases h
  · cases h
theorem outE_ex {ρ ρ1 : En} {p : Nat × List Pe} {t : Option Rt} {cn : Str} (h : outE ρ p t = some (.ex cn ρ1)) : ∃ x' l, t = some (.ex cn (x' :: l)) ∧ ρ1 = upS ρ p.1 p.2 x' := by
  unfold outE at h
  split at h
  · cases h
  · cases h; exact ⟨_, _, rfl, rfl⟩
  · cases h
theorem se_meth {cn m : Str} {j k : Nat} {F : List Rs → Option Rt} {pl : Sem Bool} (G : Fq X.prog X.w X.K X.mg X.base (He.ma X.K (He.ga X.K cn) m) j [true] F) (cl : Cls X.K (He.ga X.K cn)) (hm : Meth X.K (He.ga X.K cn) m (He.ma X.K (He.ga X.K cn) m)) (hr : Room k X.A) (tk : Takes X W) (ho : SP X o sp) (ha : SAm X W (e :: es) sm) (hj : j ≤ k := by decide)
    (hst : starEach (e :: es) X.env = (false, eval e X.env) :: starEach es X.env := by rfl) (hpl : (backTo pos (starEach es X.env)).any (·.1) = false := by rfl)
    (ht : eval (.Call (.Attribute o m apos) (e :: es) [] pos) X.env = (do
        let ov ← eval o X.env
        standAt apos.atName
        let (g, fst) ← holding [ov] (getMethod ov m pl)
        callWith pos g fst (backTo pos (starEach (e :: es) X.env)) (backToKw pos (keywordEach [] X.env))) := by rfl) :
    SE X mk W (.Call (.Attribute o m apos) (e :: es) [] pos) (mmE cn m F sp sm) := by
  obtain ⟨fd, ps, hb, G⟩ := G
  refine ⟨fun ρ x ρ1 z => ?_, fun ρ cc ρ1 z => ?_⟩ <;> unfold mmE at z <;> split at z
  · rename_i p q1
    split at z
    · rename_i x0 q2
      split at z
      · rename_i hc
        split at z
        · rename_i rs q3
          obtain ⟨x', t, q4, rfl⟩ := outE_ok z
          refine pe_imp (pe_methW (ho _ _ q1).2 cl hm G (hr.mono hj) hb (fun σ => passAt tk σ) (ha.ok _ _ _ q3) hst hpl ht) fun σ H Q ⟨g, Hs, T, env, k⟩ => ⟨Hs, _, env_q env, fun v u Hs1 H1 hv e1 w => ?_⟩
          have env1 := env_ext e1 env
          obtain ⟨fp, ow⟩ := place_own (env_q env1) q2 hv w
          obtain ⟨a, dx, fs, rfl, g1, g2⟩ := isC_own hc ow
          obtain ⟨av, qh, fin⟩ := spM_part env1 q2 hv w
          exact ⟨a, dx, fs, rfl, g1, g2, Hs1, av, env_q env1, qh, fun vs Hs2 H2 e2 os => fin e2 os q4 ⟨x', t, rfl, fun v' Hs' H' s' e' => k v' Hs' H' ((e1.data.trans e2.data).trans s') e'⟩⟩
        · cases z
        · cases z
      · cases z
    · cases z
  · cases z
  · rename_i p q1
    split at z
    · rename_i x0 q2
      split at z
      · rename_i hc
        split at z
        · rename_i rs q3
          obtain ⟨x', t, q4, rfl⟩ := outE_ex z
          refine pe_imp (pe_methW (ho _ _ q1).2 cl hm G (hr.mono hj) hb (fun σ => passAt tk σ) (ha.ok _ _ _ q3) hst hpl ht) fun σ H Q ⟨g, Hs, T, env, k⟩ => ⟨Hs, _, env_q env, fun v u Hs1 H1 hv e1 w => ?_⟩
          have env1 := env_ext e1 env
          obtain ⟨fp, ow⟩ := place_own (env_q env1) q2 hv w
          obtain ⟨a, dx, fs, rfl, g1, g2⟩ := isC_own hc ow
          obtain ⟨av, qh, fin⟩ := spM_part env1 q2 hv w
          exact ⟨a, dx, fs, rfl, g1, g2, Hs1, av, env_q env1, qh, fun vs Hs2 H2 e2 os => fin e2 os q4 ⟨x', t, rfl, fun Hs' H' s' e' => k Hs' H' ((e1.data.trans e2.data).trans s') e'⟩⟩
        · rename_i q3
          cases z
          refine pe_imp (pe_methW (ho _ _ q1).2 cl hm G (hr.mono hj) hb (fun σ => passAt tk σ) (ha.ex _ _ _ q3) hst hpl ht) fun σ H Q ⟨g, Hs, T, env, k⟩ => ⟨Hs, _, env_q env, fun v u Hs1 H1 hv e1 w => ?_⟩
          have env1 := env_ext e1 env
          obtain ⟨fp, ow⟩ := place_own (env_q env1) q2 hv w
          obtain ⟨a, dx, fs, rfl, g1, g2⟩ := isC_own hc ow
          obtain ⟨av, qh, _⟩ := spM_part env1 q2 hv w
          exact ⟨a, dx, fs, rfl, g1, g2, Hs1, env_q env1, ⟨av, qh⟩, fun Hs' H' e' => k Hs' H' (e1.data.trans e'.data) (env_ext e' env1)⟩
        · cases z
      · cases z
    · cases z
  · cases z
theorem se_meth0 {cn m : Str} {j k : Nat} {F : List Rs → Option Rt} {pl : Sem Bool} (G : Fq X.prog X.w X.K X.mg X.base (He.ma X.K (He.ga X.K cn) m) j [true] F) (cl : Cls X.K (He.ga X.K cn)) (hm : Meth X.K (He.ga X.K cn) m (He.ma X.K (He.ga X.K cn) m)) (hr : Room k X.A) (tk : Takes X W) (ho : SP X o sp) (hj : j ≤ k := by decide)
    (ht : eval (.Call (.Attribute o m apos) [] [] pos) X.env = (do
        let ov ← eval o X.env
        standAt apos.atName
        let (g, fst) ← holding [ov] (getMethod ov m pl)
        callWith pos g fst (backTo pos (starEach [] X.env)) (backToKw pos (keywordEach [] X.env))) := by rfl) :
    SE X mk W (.Call (.Attribute o m apos) [] [] pos) (mmE cn m F sp nilM) := by
  obtain ⟨fd, ps, hb, G⟩ := G
  refine ⟨fun ρ x ρ1 z => ?_, fun ρ cc ρ1 z => ?_⟩ <;> unfold mmE at z <;> split at z
  · rename_i p q1
    split at z
    · rename_i x0 q2
      split at z
      · rename_i hc
        split at z
        · rename_i rs q3
          cases q3
          obtain ⟨x', t, q4, rfl⟩ := outE_ok z
          refine pe_imp (pe_methW0 (ho _ _ q1).2 cl hm G (hr.mono hj) hb (fun σ => passAt tk σ) ht) fun σ H Q ⟨g, Hs, T, env, k⟩ => ⟨Hs, _, env_q env, fun v u Hs1 H1 hv e1 w => ?_⟩
          have env1 := env_ext e1 env
          obtain ⟨fp, ow⟩ := place_own (env_q env1) q2 hv w
          obtain ⟨a, dx, fs, rfl, g1, g2⟩ := isC_own hc ow
          obtain ⟨av, qh, fin⟩ := spM_part env1 q2 hv w
          exact ⟨a, dx, fs, rfl, g1, g2, fin (.refl e1.sub) .nil q4 ⟨x', t, rfl, fun v' Hs' H' s' e' => k v' Hs' H' (e1.data.trans s') e'⟩⟩
        · cases z
        · cases z
      · cases z
    · cases z
  · cases z
  · rename_i p q1
    split at z
    · rename_i x0 q2
      split at z
      · rename_i hc
        split at z
        · rename_i rs q3
          cases q3
          obtain ⟨x', t, q4, rfl⟩ := outE_ex z
          refine pe_imp (pe_methW0 (ho _ _ q1).2 cl hm G (hr.mono hj) hb (fun σ => passAt tk σ) ht) fun σ H Q ⟨g, Hs, T, env, k⟩ => ⟨Hs, _, env_q env, fun v u Hs1 H1 hv e1 w => ?_⟩
          have env1 := env_ext e1 env
          obtain ⟨fp, ow⟩ := place_own (env_q env1) q2 hv w
          obtain ⟨a, dx, fs, rfl, g1, g2⟩ := isC_own hc ow
          obtain ⟨av, qh, fin⟩ := spM_part env1 q2 hv w
          exact ⟨a, dx, fs, rfl, g1, g2, fin (.refl e1.sub) .nil q4 ⟨x', t, rfl, fun Hs' H' s' e' => k Hs' H' (e1.data.trans s') e'⟩⟩
        · rename_i q3; cases q3
        · cases z
      · cases z
    · cases z
  · cases z
/-! ### f(x, ..), which may change x -/
def cmE (F : List Rs → Option Rt) (sp : FP) (sm : FM) : En → Option Oe := fun ρ => match sp ρ with
  | some p => (match atP ρ p with
    | some x => (match sm ρ (holeE ρ p) with
      | some (.ok rs) => outE ρ p (F (x :: rs))
      | some (.ex c) => some (.ex c ρ)
      | none => none)
    | none => none)
  | none => none
theorem se_call {f : Str} {j k : Nat} {F : List Rs → Option Rt} (G : Fq X.prog X.w X.K X.mg X.base (He.ga X.K f) j [true] F) (hm : X.mg f = some (.ref (He.ga X.K f))) (hk : PySem.W.keepIn X.K (.ref (He.ga X.K f)) = true) (hr : Room k X.A) (tk : Takes X W) (ho : SP X e sp) (ha : SAm X W es sm) (hj : j ≤ k := by decide) (hg : Gl X f := by rfl)
    (hdb : (f == ("__debug__" : Str)) = false := by decide) (he : starEach (e :: es) X.env = (false, eval e X.env) :: starEach es X.env := by rfl) (hpl : (backTo pos (starEach es X.env)).any (·.1) = false := by rfl) :
    SE X mk W (.Call (.Name f pp) (e :: es) [] pos) (cmE F sp sm) := by
  obtain ⟨fd, ps, hb, G⟩ := G
  refine ⟨fun ρ x ρ1 z => ?_, fun ρ cc ρ1 z => ?_⟩ <;> unfold cmE at z <;> split at z
  · rename_i p q1
    split at z
    · rename_i x0 q2
      split at z
      · rename_i rs q3
        obtain ⟨x', t, q4, rfl⟩ := outE_ok z
        refine pe_imp (pe_callS G (hr.mono hj) hg hm hk hb (fun σ => passAt tk σ) (pa_cons (ho _ _ q1).2 (ha.ok _ _ _ q3) he) hdb he hpl) fun σ H Q ⟨g, Hs, T, env, k⟩ => ⟨Hs, _, env_q env, fun v u Hs1 H1 hv e1 w => ?_⟩
        have env1 := env_ext e1 env
        obtain ⟨av, qh, fin⟩ := spM_part env1 q2 hv w
        exact ⟨Hs1, av, env_q env1, qh, fun vs Hs2 H2 e2 os => fin e2 os q4 ⟨x', t, rfl, fun v' Hs' H' s' e' => k v' Hs' H' ((e1.data.trans e2.data).trans s') e'⟩⟩
      · cases z
      · cases z
    · cases z
  · cases z
  · rename_i p q1
    split at z
    · rename_i x0 q2
      split at z
      · rename_i rs q3
        obtain ⟨x', t, q4, rfl⟩ := outE_ex z
        refine pe_imp (pe_callS G (hr.mono hj) hg hm hk hb (fun σ => passAt tk σ) (pa_cons (ho _ _ q1).2 (ha.ok _ _ _ q3) he) hdb he hpl) fun σ H Q ⟨g, Hs, T, env, k⟩ => ⟨Hs, _, env_q env, fun v u Hs1 H1 hv e1 w => ?_⟩
        have env1 := env_ext e1 env
        obtain ⟨av, qh, fin⟩ := spM_part env1 q2 hv w
        exact ⟨Hs1, av, env_q env1, qh, fun vs Hs2 H2 e2 os => fin e2 os q4 ⟨x', t, rfl, fun Hs' H' s' e' => k Hs' H' ((e1.data.trans e2.data).trans s') e'⟩⟩
      · rename_i q3
        cases z
        refine pe_imp (pe_callS G (hr.mono hj) hg hm hk hb (fun σ => passAt tk σ) (pa_cons (ho _ _ q1).2 (ha.ex _ _ _ q3) he) hdb he hpl) fun σ H Q ⟨g, Hs, T, env, k⟩ => ⟨Hs, _, env_q env, fun v u Hs1 H1 hv e1 w => ?_⟩
        have env1 := env_ext e1 env
        obtain ⟨av, qh, _⟩ := spM_part env1 q2 hv w
        exact ⟨Hs1, env_q env1, ⟨av, qh⟩, fun Hs' H' e' => k Hs' H' (e1.data.trans e'.data) (env_ext e' env1)⟩
      · cases z
    · cases z
  · cases z
end
end Cg

/-! Tests with effects; list(); two names at once. -/
namespace Cg
open PySem L2
section
variable {X : Cx} {mk : List Bool} {W : WX} {e a b c : Expr} {es rest : List Expr} {pos pp p2 : Pos} {s sa sb : FE} {sd sd' : FD} {se : En → Option Oe} {te te' : En → Option (Bool × En)}
theorem own_any {K : PySem.W.Frag} {g : Gh} {Hs H : Hp} {T : List VR} {σ : St} {ρ : En} {v : V} {x : Rs} (e : EnvAt K mk g Hs H ((v, x) :: T) σ ρ) : ∃ fp, Own K .rdo Hs H v x fp := by
  obtain ⟨⟨L, sl, h⟩, _⟩ := e
  obtain ⟨fp, o, _⟩ := (st_front h).own
  cases o with
  | cons o t => exact ⟨_, own_rd o⟩
/-- e is None, where e has effects -/
def isNE (se : En → Option Oe) : En → Option (Bool × En) := fun ρ => match se ρ with
  | some (.ok x ρ1) => (isNR x).map fun b => (b, ρ1)
  | _ => none
def notE (te : En → Option (Bool × En)) : En → Option (Bool × En) := fun ρ => (te ρ).map fun p => (!p.1, p.2)
theorem te_isN {j} (h : SE X mk W a se) : TE' X mk (.Compare a [.Is] [.Constant .none j pp] pos) (isNE se) := fun ρ z ρ1 q => by
  unfold isNE at q
  split at q
  · rename_i x ρ2 q1
    obtain ⟨b, q2, q3⟩ := map_some q
    cases q3
    refine pt_imp (pt_cmp (pc_isN (h.ok _ _ _ q1)) rfl) fun σ H Q ⟨g, Hs, T, env, k⟩ => ⟨g, Hs, T, env, fun v Hs1 H1 s1 e1 => ?_⟩
    obtain ⟨fp, o⟩ := own_any e1
    exact ⟨_, rfl, by rw [isNR_r q2 o]; exact k Hs1 H1 s1 (env_pop e1)⟩
  · cases q
theorem te_notN {j} (h : SE X mk W a se) : TE' X mk (.Compare a [.IsNot] [.Constant .none j pp] pos) (notE (isNE se)) := fun ρ z ρ1 q => by
  unfold notE at q
  obtain ⟨⟨p1, p2⟩, q0, q'⟩ := map_some q
  clear q
  cases q'
  unfold isNE at q0
  split at q0
  · rename_i x ρ2 q1
    obtain ⟨b, q2, q3⟩ := map_some q0
    cases q3
    refine pt_imp (pt_cmp (pc_notN (h.ok _ _ _ q1)) rfl) fun σ H Q ⟨g, Hs, T, env, k⟩ => ⟨g, Hs, T, env, fun v Hs1 H1 s1 e1 => ?_⟩
    obtain ⟨fp, o⟩ := own_any e1
    exact ⟨_, rfl, by rw [isNR_r q2 o]; exact k Hs1 H1 s1 (env_pop e1)⟩
  · cases q0
theorem te_not (h : TE' X mk a te) : TE' X mk (.UnaryOp .Not a pos) (notE te) := fun ρ z ρ1 q => by
  unfold notE at q
  obtain ⟨⟨b, ρ2⟩, q0, q'⟩ := map_some q
  cases q'
  exact pt_imp (pt_not (h _ _ _ q0)) fun σ H Q ⟨g, Hs, T, env, k⟩ => ⟨g, Hs, T, env, fun Hs1 H1 s1 e1 => k Hs1 H1 s1 e1⟩
/-- an expression with effects that gives a bool, as a test -/
def valE (se : En → Option Oe) : En → Option (Bool × En) := fun ρ => match se ρ with
  | some (.ok (.da (.bool b)) ρ1) => some (b, ρ1)
  | _ => none
theorem te_val (h : SE X mk W e se) (he : ∀ whole, isTrue e X.env whole = (do let v ← whole; standAt e.pos; holding [v] (truthy v)) := by intro _; rfl) : TE' X mk e (valE se) := fun ρ z ρ1 q => by
  unfold valE at q
  split at q
  · rename_i b ρ2 q1
    cases q
    refine pt_imp (pt_val (h.ok _ _ _ q1) he) fun σ H Q ⟨g, Hs, T, env, k⟩ => ⟨g, Hs, T, env, fun v Hs1 H1 s1 e1 => ?_⟩
    obtain ⟨fp, o⟩ := own_any e1
    exact ⟨_, dp_bool (own_dp o), k Hs1 H1 s1 (env_pop e1)⟩
  · cases q
def TW' (X : Cx) (mk : List Bool) (e : Expr) (s : En → Option (Bool × En)) : Prop := ∀ ρ b ρ1, s ρ = some (b, ρ1) → PW X e (tEt X.K mk ρ b ρ1)
def andE (t t' : En → Option (Bool × En)) : En → Option (Bool × En) := fun ρ => match t ρ with
  | some (true, ρ1) => t' ρ1
  | r => r
def orTE (t t' : En → Option (Bool × En)) : En → Option (Bool × En) := fun ρ => match t ρ with
  | some (false, ρ1) => t' ρ1
  | r => r
theorem tw_and1 (h : TE' X mk a te) : TW' X mk (.BoolOp .And [a] pos) te := fun ρ b ρ1 q => pw_and1 (h ρ b ρ1 q)
theorem tw_or1 (h : TE' X mk a te) : TW' X mk (.BoolOp .Or [a] pos) te := fun ρ b ρ1 q => pw_or1 (h ρ b ρ1 q)
theorem pw_never {e : Expr} : PW X e (fun _ _ _ => False) := ⟨fun _ _ _ _ _ _ _ h => h.elim⟩
theorem tw_and (h : TE' X mk a te) (h2 : TW' X mk (.BoolOp .And (b :: rest) pos) te') : TW' X mk (.BoolOp .And (a :: b :: rest) pos) (andE te te') := fun ρ z ρ1 q => by
  unfold andE at q
  split at q
  · rename_i ρ2 q1
    exact pw_imp (pw_and (h _ _ _ q1) (h2 _ _ _ q)) fun σ H Q ⟨g, Hs, T, env, k⟩ => ⟨g, Hs, T, env, fun Hs1 H1 s1 e1 => iteT ⟨g, Hs1, T, e1, fun Hs2 H2 s2 e2 => k Hs2 H2 (s1.trans s2) e2⟩⟩
  · rename_i hn
    cases z with
    | true => exact (hn _ q).elim
    | false => exact pw_imp (pw_and (h _ _ _ q) (pw_never (e := .BoolOp .And (b :: rest) pos))) fun σ H Q ⟨g, Hs, T, env, k⟩ => ⟨g, Hs, T, env, fun Hs1 H1 s1 e1 => iteF (k Hs1 H1 s1 e1)⟩
theorem tw_or (h : TE' X mk a te) (h2 : TW' X mk (.BoolOp .Or (b :: rest) pos) te') : TW' X mk (.BoolOp .Or (a :: b :: rest) pos) (orTE te te') := fun ρ z ρ1 q => by
  unfold orTE at q
  split at q
  · rename_i ρ2 q1
    exact pw_imp (pw_or (h _ _ _ q1) (h2 _ _ _ q)) fun σ H Q ⟨g, Hs, T, env, k⟩ => ⟨g, Hs, T, env, fun Hs1 H1 s1 e1 => iteF ⟨g, Hs1, T, e1, fun Hs2 H2 s2 e2 => k Hs2 H2 (s1.trans s2) e2⟩⟩
  · rename_i hn
    cases z with
    | false => exact (hn _ q).elim
    | true => exact pw_imp (pw_or (h _ _ _ q) (pw_never (e := .BoolOp .Or (b :: rest) pos))) fun σ H Q ⟨g, Hs, T, env, k⟩ => ⟨g, Hs, T, env, fun Hs1 H1 s1 e1 => iteT (k Hs1 H1 s1 e1)⟩
theorem te_w (h : TW' X mk e te) : TE' X mk e te := fun ρ b ρ1 q => (h ρ b ρ1 q).pt
/-- a comparison whose left side has effects -/
def cmE2 (f : Rs → Rs → Option Bool) (se : En → Option Oe) (sb : FE) : En → Option (Bool × En) := fun ρ => match se ρ with
  | some (.ok x ρ1) => (match okk (sb ρ1) with
    | some y => (f x y).map fun b => (b, ρ1)
    | none => none)
  | _ => none
theorem te_cmp {op : CmpOp} {r : R2} {f : Rs → Rs → Option Bool} (ho : OpR X (compareOp op) r) (ha : SE X mk W a se) (hb : SA X W b sb) (hm : behindInMarks op b = false)
    (hr : ∀ r1 r2 t v w Hs H (Q : VK) fp fq, f r1 r2 = some t → Same Hs H → Own X.K .rdo Hs H v r1 fp → Own X.K .rdo Hs H w r2 fq → Q (.bl t) H → r v w H Q) : TE' X mk (.Compare a [op] [b] pos) (cmE2 f se sb) := fun ρ z ρ1 q => by
  unfold cmE2 at q
  split at q
  · rename_i x ρ2 q1
    split at q
    · rename_i y q2
      obtain ⟨b', q3, q4⟩ := map_some q
      cases q4
      refine pt_imp (pt_cmpR ho (ha.ok _ _ _ q1) (hb.ok _ _ (okk_some q2)) hm) fun σ H Q ⟨g, Hs, T, env, k⟩ => ⟨g, Hs, T, env, fun v Hs1 H1 s1 e1 => ?_⟩
      refine ⟨Hs1, _, env_q e1, fun w Hs2 H2 fq e2 o2 _ => ?_⟩
      have e3 := env_ext e2 e1
      obtain ⟨fp, o1⟩ := own_any e3
      exact hr x y z v w Hs2 H2 _ fp fq q3 e2.sub o1 o2 ⟨z, rfl, k Hs2 H2 (s1.trans e2.data) (env_pop e3)⟩
    · cases q
  · cases q
theorem te_eq {k : Nat} (hr : Room k X.A) (ha : SE X mk W a se) (hb : SA X W b sb) : TE' X mk (.Compare a [.Eq] [b] pos) (cmE2 eqR se sb) := te_cmp (op_eqD hr.units) ha hb (nomark _) fun _ _ _ v w Hs H Q fp fq h s o1 o2 k => by
  obtain ⟨d1, d2, h1, h2, s1, s2, rfl⟩ := eqR_r h s o1 o2
  exact ⟨d1, d2, h1, h2, s1, s2, k⟩
theorem te_ne {k : Nat} (hr : Room k X.A) (ha : SE X mk W a se) (hb : SA X W b sb) : TE' X mk (.Compare a [.NotEq] [b] pos) (cmE2 neR se sb) := te_cmp (op_neD hr.units) ha hb (nomark _) fun _ _ _ v w Hs H Q fp fq h s o1 o2 k => by
  obtain ⟨d1, d2, h1, h2, s1, s2, rfl⟩ := neR_r h s o1 o2
  exact ⟨d1, d2, h1, h2, s1, s2, k⟩
/-! ### list(e) -/
def kD : Key → PyData
  | .inl i => .int i
  | .inr s => .str s
theorem kD_dp {K : PySem.W.Frag} {H : Hp} : ∀ {kv : List (Key × V)} {ks : List (Key × Rs)}, kv.map (·.1) = ks.map (·.1) → DpAll K H (kv.map fun p => kV p.1) (ks.map fun p => kD p.1)
  | [], [], _ => .nil
  | (k, v) :: kv, (k', r) :: ks, h => by
    simp only [List.map_cons, List.cons.injEq] at h
    obtain ⟨rfl, h⟩ := h
    refine .cons ?_ (kD_dp h)
    cases k with
    | inl i => exact .int i
    | inr x => exact .str x
  | [], _ :: _, h => by simp at h
  | _ :: _, [], h => by simp at h
def lsR : Rs → Option Rs
  | .lst ds => some (.lst ds)
  | .da (.list ds) => some (.lst ds)
  | .da (.tuple ds) => some (.lst ds)
  | .dct _ kvs => some (.lst (kvs.map fun kv => kD kv.1))
  | _ => none
theorem sv_list (hc : X.calm = true) (hm : X.mg "list" = none) (ha : SA X W a sa) (hg : Gl X "list" := by rfl) (he : starEach (a :: []) X.env = (false, eval a X.env) :: starEach [] X.env := by rfl) (hpl : (backTo pos (starEach [] X.env)).any (·.1) = false := by rfl) :
    SV X W (.Call (.Name "list" pp) [a] [] pos) (op1 lsR sa) :=
  sv_op1 ha fun ρ r x h q => by
    unfold lsR at h
    split at h
    · cases h
      exact q_ty1 call_list_of hg hm (by decide +kernel) q (fun v Hs H Q fp s o k => by
        cases o with
        | lst h1 h2 => exact ⟨_, _, rfl, .inl (SqL.of h1), kfree s h2 k⟩) (by decide) (by decide) he hpl
    · cases h
      exact q_ty1 call_list_of hg hm (by decide +kernel) q (fun v Hs H Q fp s o k => by
        obtain ⟨p, xs, rfl, h1, h2⟩ := dp_lst (own_dp o)
        exact ⟨_, _, rfl, .inl (SqL.of (s _ _ h1)), kfree s h2 k⟩) (by decide) (by decide) he hpl
    · cases h
      exact q_ty1 call_list_of hg hm (by decide +kernel) q (fun v Hs H Q fp s o k => by
        obtain ⟨p, xs, rfl, h1, h2⟩ := dp_tup (own_dp o)
        exact ⟨_, _, rfl, .inr (SqT.of (s _ _ h1)), kfree s h2 k⟩) (by decide) (by decide) he hpl
    · cases h
      exact q_ty1 (call_listD hc) hg hm (by decide +kernel) q (fun v Hs H Q fp s o k => by
        cases o with
        | dct h1 nk h2 => exact ⟨_, _, rfl, dctAt_rd h1, kfree s (kD_dp (ownK_keys h2)) k⟩) (by decide) (by decide) he hpl
    · cases h
/-! ### a, b = e1, e2 -/
def parS (i j : Nat) (ss : En → Option (Rz (List PyData))) : FS := fun ρ => match okk (ss ρ) with
  | some [d1, d2] => if i < ρ.length ∧ j < ρ.length then some (.nx (put (put ρ i (.ow (.da d1))) j (.ow (.da d2)))) else none
  | _ => none
theorem put_len {ρ : En} {i : Nat} {s : Sv} : (put ρ i s).length = ρ.length := by unfold put; rw [List.length_set, dropA_len]
theorem ss_par {i j : Nat} {n m : Str} {px py pt : Pos} {kt k2 pt2} {ss : En → Option (Rz (List PyData))} (hc : X.calm = true) (hN : X.N.Nodup) (hi : X.N[i]? = some n) (hj : X.N[j]? = some m) (ha : SDs X W [a, b] ss) (hij : i ≠ j := by decide)
    (hx : X.env.scope.names.lookup n = some .local := by rfl) (hy : X.env.scope.names.lookup m = some .local := by rfl)
    (hw : swappedStores [.Tuple [.Name n px, .Name m py] kt pt] (.Tuple [a, b] k2 pt2) X.env = pure (some [n, m]) := by rfl)
    (hp1 : mk[i]? ≠ some true := by decide) (hp2 : mk[j]? ≠ some true := by decide)
    (hs : swapsWithSole [.Tuple [.Name n px, .Name m py] kt pt] (.Tuple [a, b] k2 pt2) pos.line X.env = pure false := by rfl) :
    SS X mk W (.Assign [.Tuple [.Name n px, .Name m py] kt pt] (.Tuple [a, b] k2 pt2) pos) (parS i j ss) := fun ρ o z => by
  unfold parS at z
  split at z
  · rename_i d1 d2 q1
    split at z
    · rename_i hl
      cases z
      refine ps_imp (ps_par hc hN hi hj hij hx hy (ha.ok _ _ (okk_some q1)) hw hs) fun D σ H ⟨g, Hs, env, k⟩ => ⟨Hs, _, env_q env, fun vs Hs1 H1 e1 q => ?_⟩
      obtain ⟨v, w, rfl, q2, q3⟩ := dpAll_2 q
      refine ⟨v, w, rfl, k _ Hs1 H1 e1.data ?_⟩
      exact env_set (env_push (env_set (env_push (env_ext e1 env) q2) hl.1 hp1) q3) (by rw [put_len]; exact hl.2) hp2
    · cases z
  · cases z
end
end Cg

/-! Names for what the rules give: the words of the compiled defs. -/
namespace Cg
open PySem L2
section
variable {X : Cx} {mk : List Bool} {W : WX} {e a b c : Expr} {es rest : List Expr} {pos pp p2 : Pos} {s sa sb sc : FE} {sd sd' : FD} {se : En → Option Oe} {t t' : En → Option Bool} {te te' : En → Option (Bool × En)}
def subI : Rs → Rs → Option Rs := intR fun i j => some (i - j)
def divI : Rs → Rs → Option Rs := intR fun i j => if 0 < j ∧ j.natAbs.log2 < 9000 then some (i / j) else none
def modI : Rs → Rs → Option Rs := intR fun i j => if 0 < j then some (i % j) else none
def powI : Rs → Rs → Option Rs := intR fun i j => if 0 ≤ j ∧ j ≤ 1000000 ∧ i.natAbs < 2 ^ 64 then some (i ^ j.toNat) else none
theorem v_sub (ha : SA X W a sa) (hb : SA X W b sb) : SV X W (.BinOp a .Sub b pos) (op2 subI sa sb) := sv_sub ha hb
theorem v_div (ha : SA X W a sa) (hb : SA X W b sb) : SV X W (.BinOp a .FloorDiv b pos) (op2 divI sa sb) := sv_div ha hb
theorem v_mod (ha : SA X W a sa) (hb : SA X W b sb) : SV X W (.BinOp a .Mod b pos) (op2 modI sa sb) := sv_mod ha hb
theorem v_pow (ha : SA X W a sa) (hb : SA X W b sb) : SV X W (.BinOp a .Pow b pos) (op2 powI sa sb) := sv_pow ha hb
def leI : Rs → Rs → Option Bool := cmI fun i j => decide (i ≤ j)
def gtI : Rs → Rs → Option Bool := cmI fun i j => decide (j < i)
def geI : Rs → Rs → Option Bool := cmI fun i j => decide (j ≤ i)
theorem t_le (ha : SA X W a sa) (hb : SA X W b sb) : ST X (.Compare a [.LtE] [b] pos) (cm2 leI sa sb) := st_le ha hb
theorem t_gt (ha : SA X W a sa) (hb : SA X W b sb) : ST X (.Compare a [.Gt] [b] pos) (cm2 gtI sa sb) := st_gt ha hb
theorem t_ge (ha : SA X W a sa) (hb : SA X W b sb) : ST X (.Compare a [.GtE] [b] pos) (cm2 geI sa sb) := st_ge ha hb
theorem v_le (ha : SA X W a sa) (hb : SA X W b sb) : SV X W (.Compare a [.LtE] [b] pos) (bV (cm2 leI sa sb)) := sv_le ha hb
theorem v_gt (ha : SA X W a sa) (hb : SA X W b sb) : SV X W (.Compare a [.Gt] [b] pos) (bV (cm2 gtI sa sb)) := sv_gt ha hb
theorem v_ge (ha : SA X W a sa) (hb : SA X W b sb) : SV X W (.Compare a [.GtE] [b] pos) (bV (cm2 geI sa sb)) := sv_ge ha hb
def notNR (r : Rs) : Option Bool := (isNR r).map (!·)
theorem t_notN {j} (ha : SA X W a sa) : ST X (.Compare a [.IsNot] [.Constant .none j pp] pos) (cm1 notNR sa) := st_notN ha
theorem v_notN {j} (ha : SA X W a sa) : SV X W (.Compare a [.IsNot] [.Constant .none j pp] pos) (bV (cm1 notNR sa)) := sv_notN ha
theorem t_val (h : SV X W e s) (he : ∀ whole, isTrue e X.env whole = (do let v ← whole; standAt e.pos; holding [v] (truthy v)) := by intro _; rfl) : ST X e (asB s) := st_val h he
def notT (t : En → Option Bool) : En → Option Bool := fun ρ => (t ρ).map (!·)
theorem t_not (h : ST X a t) : ST X (.UnaryOp .Not a pos) (notT t) := st_not h
theorem v_not (h : SV X W a (bV t)) : SV X W (.UnaryOp .Not a pos) (bV (notT t)) := sv_not h
def lenV (r : Rs) : Option Rs := (lenR r).map fun n => .da (.int n)
theorem v_len (hm : X.mg "len" = none) (ha : SA X W a sa) (hg : Gl X "len" := by rfl) (he : starEach (a :: []) X.env = (false, eval a X.env) :: starEach [] X.env := by rfl) (hpl : (backTo pos (starEach [] X.env)).any (·.1) = false := by rfl) :
    SV X W (.Call (.Name "len" pp) [a] [] pos) (op1 lenV sa) := sv_len hm ha hg he hpl
def brkS : FS := fun ρ => some (.bk ρ)
def cntS : FS := fun ρ => some (.ct ρ)
def retNS : FS := fun ρ => some (.rt (.da .none) ρ)
theorem s_break : SS X mk W (.Break pos) brkS := ss_break
theorem s_continue : SS X mk W (.Continue pos) cntS := ss_continue
theorem s_retN : SS X mk W (.Return none pos) retNS := ss_retN
def ltI' : Int → Int → Bool := fun i j => decide (i < j)
def leI' : Int → Int → Bool := fun i j => decide (i ≤ j)
theorem t_ltlt (ha : SA X W a sa) (hb : SA X W b sb) (hc : SA X W c sc) (hm : lastMarks [.Lt, .Lt] [b, c] = false := by with_unfolding_all rfl) : ST X (.Compare a [.Lt, .Lt] [b, c] pos) (chI ltI' ltI' sa sb sc) := st_chain op_lt op_lt ha hb hc hm
theorem t_lele (ha : SA X W a sa) (hb : SA X W b sb) (hc : SA X W c sc) (hm : lastMarks [.LtE, .LtE] [b, c] = false := by with_unfolding_all rfl) : ST X (.Compare a [.LtE, .LtE] [b, c] pos) (chI leI' leI' sa sb sc) := st_chain op_le op_le ha hb hc hm
theorem t_lelt (ha : SA X W a sa) (hb : SA X W b sb) (hc : SA X W c sc) (hm : lastMarks [.LtE, .Lt] [b, c] = false := by with_unfolding_all rfl) : ST X (.Compare a [.LtE, .Lt] [b, c] pos) (chI leI' ltI' sa sb sc) := st_chain op_le op_lt ha hb hc hm
theorem t_ltle (ha : SA X W a sa) (hb : SA X W b sb) (hc : SA X W c sc) (hm : lastMarks [.Lt, .LtE] [b, c] = false := by with_unfolding_all rfl) : ST X (.Compare a [.Lt, .LtE] [b, c] pos) (chI ltI' leI' sa sb sc) := st_chain op_lt op_le ha hb hc hm
/-- a new list is data from here on -/
def frV (s : FE) : FE := fun ρ => match s ρ with
  | some (.ok (.lst ds)) => some (.ok (.da (.list ds)))
  | r => r
theorem sv_fr (h : SV X W e s) : SV X W e (frV s) := by
  refine ⟨fun ρ x z => ?_, fun ρ cc z => ?_⟩ <;> unfold frV at z <;> split at z
  · rename_i q
    cases z
    exact q_freeze (h.ok _ _ q)
  · exact h.ok _ _ z
  · cases z
  · exact h.ex _ _ z
/-- a call without arguments -/
def call0C (F : List Rs → Option Rt) : FE := fun _ => match F [] with
  | some (.ok x _) => some (.ok x)
  | _ => none
theorem v_call0 {f : Str} {j k : Nat} {F : List Rs → Option Rt} (G : Fq X.prog X.w X.K X.mg X.base (He.ga X.K f) j [] F) (hm : X.mg f = some (.ref (He.ga X.K f))) (hk : PySem.W.keepIn X.K (.ref (He.ga X.K f)) = true) (hr : Room k X.A) (hj : j ≤ k := by decide) (hg : Gl X f := by rfl)
    (hdb : (f == ("__debug__" : Str)) = false := by decide) : SV X W (.Call (.Name f pp) [] [] pos) (call0C F) := sv_call0 G hm hk hr hj hg hdb
end
end Cg

/-! The law's own end. -/
namespace Cg
open PySem PySem.Spec PyProof.Rows L2
theorem walk_w {l : PySem.W.OpenLaw} {n k : Nat} {q : Program} {loose : List Str} {XP : (Str → Option Value) → Heap → Prop} {YP : World → Heap → Prop} {d : DefRec} {CX : World → CXT} {x : Str}
    (hn : l.most = some n) (hn2 : n ≤ sizeLine) (hdf : d.params.defaults = []) (hr : Room k callerA)
    (F : ∀ (w : World) (mg : Str → Option Value) (fa : Addr) (h : Heap), YP w h → h.Ns mainGlobals mg → mg d.name = some (.ref fa) →
      ∃ (K : PySem.W.Frag) (fd : FuncData) (sp : Sp), K.In h ∧ (∀ (s : Shared) (u : Value), BindsTo s fd ⟨[u], []⟩ [(x, u)]) ∧
        (∀ (H : Hp) (a : Addr) (ns : List Int), ns.length ≤ n → Only H → SqL K H a (ns.map V.int) → sp [.ref a] H (fun v _ => v = .bl true) fun _ _ _ => False) ∧
        ∀ base : Heap, K.In base → base.Ns mainGlobals mg → FnOk l.prog w K mg base (CX w) k fa fd [x] sp)
    (hCX : ∀ (w : World) (H : Hp) (s : Shared) (e : Value) (s' : Shared), CX w [] H s (fun _ _ _ => False) e s' → False) :
    PySem.W.WalkO q loose XP YP l.row.toRowW d [] (fun f vs => PySem.call f vs) := by
  refine Att.attach_call hn hdf fun w s₀ s₁ mg mb fa o pm cd doc a vs ns G Y ho hd hcd hmg hobj hints hlen hg => ?_
  obtain ⟨K, fd, sp, KX, hb, hsp, hF⟩ := F w mg fa _ Y G.T.g hmg
  exact law_call KX G.T.g G.T.b G.T.builtins G.T.nolimit hg hobj hints (Nat.le_trans hlen hn2) hr hF hb (fun H hO hS => hsp H a ns hlen hO hS) fun H e s' => hCX w H s₁ e s'
theorem cx_end {P : Program} {w : World} {H : Hp} {s : Shared} {e : Value} {s' : Shared} (z : L2.CX P w [] H s (fun _ _ _ => False) e s') : False := by
  obtain ⟨a, B, H', cls, d, _, _, _, _, _, _, _, h⟩ := z
  exact h
theorem law_true {K : PySem.W.Frag} {H : Hp} {a : Addr} {ns : List Int} {F : List Rs → Option Rt} {E : XK} {ps : List Rs} (hO : Only H) (hS : SqL K H a (ns.map V.int)) (hF : F [.scr ns] = some (.ok (.da (.bool true)) ps)) : spM K [] F [.ref a] H (fun v _ => v = .bl true) E := by
  refine ⟨H, [.scr ns], [], _, .refl _, fun b kv z => ?_, rfl, ?_, by simp, by simp, fun i v r _ h1 h2 => ?_, hF, fun v Hs' H' _ h => dp_bool (st_dp h)⟩
  · rcases hO b with e | ⟨o, xs, e⟩ <;> rw [e] at z <;> cases z
  · rw [sel_nil]; exact .nil
  · cases i with
    | zero => simp at h1 h2; subst h1; subst h2; exact ⟨[], .scr hS, by simp⟩
    | succ i => simp at h1
end Cg

/-! Comprehensions. -/
namespace Cg
open PySem L2
/-- what is walked yields the data ds, while only new things come -/
def WkQ (K : PySem.W.Frag) (Hs H : Hp) (J : It) (ds : List PyData) : Prop := ∀ Hs1 H1, Ext Hs H Hs1 H1 → (∀ (j : Nat) d, ds[j]? = some d → J.go j H1 ∧ ∀ x H3, J.yld j H1 x H3 → H3 = H1 ∧ Dp K Hs1 x d) ∧ ∀ j, ds.length ≤ j → J.stop j H1
def tItQ (K : PySem.W.Frag) (ρ : En) (ds : List PyData) : TI := fun σ H R => ∃ Hs av, EnvQ K Hs H av σ ρ ∧ ∀ J Hs' H', Ext Hs H Hs' H' → WkQ K Hs' H' J ds → R J H'
def SI (X : Cx) (tg iter : Expr) (s : En → Option (List PyData)) : Prop := ∀ ρ ds, s ρ = some ds → PI X tg iter (tItQ X.K ρ ds)
def W0 : WX := fun _ _ _ _ => False
theorem takes0 {X : Cx} : Takes X W0 := fun u s' ⟨a, B, sI, pins, σ, H, cls, d, e, I, nb, up, sky, na, os, ag, w⟩ => w.elim
abbrev bk (X : Cx) (s : Shared) (H : Hp) (scope : Scope) (C : Addr) (cl : List (Str × Addr)) (fp : List Addr) : Cx := X.blk s H scope (compEnvC scope cl C X.env) fp
section
variable {X : Cx} {W : WX} {e a b c elt iter tg : Expr} {pos pp p2 : Pos} {sa : FE} {sd sd' : FD} {t : En → Option Bool} {i : Nat} {ρ : En}
/-- items of what is read -/
def itA : Rs → Option (List PyData)
  | .da d => itD d
  | .lst ds => some ds
  | _ => none
def itF (sa : FE) : En → Option (List PyData) := fun ρ => match okk (sa ρ) with
  | some r => itA r
  | none => none
theorem wkq_lst {K : PySem.W.Frag} {Hs H : Hp} {a : Addr} {vs : List V} {ds : List PyData} (h : H a = some (.lst vs)) (r : DpAll K Hs vs ds) : WkQ K Hs H (Itl K a) ds := fun Hs1 H1 e => by
  have hq := e.all _ _ h
  refine ⟨fun j d hj => ?_, fun j hj => ⟨vs, SqL.of hq, by rw [dpAll_length r]; exact hj⟩⟩
  obtain ⟨v, hv, dv⟩ := dpAll_get r hj
  refine ⟨⟨vs, v, SqL.of hq, hv⟩, fun x H3 y => ⟨y.1, ?_⟩⟩
  have := y.2 vs (SqL.of hq)
  rw [hv] at this; cases this
  exact dp_mono e.data dv
theorem si_a (h : SA X W iter sa) : SI X tg iter (itF sa) := fun ρ ds z => by
  unfold itF at z
  split at z
  · rename_i r q
    have qa := h.ok _ _ (okk_some q)
    cases r with
    | lst xs =>
      cases z
      refine pi_imp (pi_list qa) fun σ H R ⟨Hs, av, env, k⟩ => ⟨Hs, av, env, fun v Hs1 H1 fp e1 o _ => ?_⟩
      cases o with
      | lst h1 h2 => exact ⟨_, rfl, ⟨_, SqL.of h1⟩, k _ Hs1 H1 e1 (wkq_lst h1 h2)⟩
    | da d =>
      cases d with
      | list xs =>
        cases z
        refine pi_imp (pi_list qa) fun σ H R ⟨Hs, av, env, k⟩ => ⟨Hs, av, env, fun v Hs1 H1 fp e1 o _ => ?_⟩
        obtain ⟨a, vs, rfl, q1, r⟩ := dp_lst (own_dp o)
        exact ⟨a, rfl, ⟨vs, SqL.of (e1.sub _ _ q1)⟩, k _ Hs1 H1 e1 (wkq_lst (e1.sub _ _ q1) r)⟩
      | tuple xs =>
        cases z
        refine pi_imp (pi_tup qa) fun σ H R ⟨Hs, av, env, k⟩ => ⟨Hs, av, env, fun v Hs1 H1 fp e1 o _ => ?_⟩
        obtain ⟨a, vs, rfl, q1, r⟩ := dp_tup (own_dp o)
        refine ⟨a, rfl, ⟨vs, SqT.of (e1.sub _ _ q1)⟩, k _ Hs1 H1 e1 fun Hs2 H2 e2 => ⟨fun j d hj => ?_, fun j hj => ⟨vs, SqT.of (e2.all _ _ (e1.sub _ _ q1)), by rw [dpAll_length r]; exact hj⟩⟩⟩
        have hq := e2.all _ _ (e1.sub _ _ q1)
        obtain ⟨v, hv, dv⟩ := dpAll_get r hj
        refine ⟨⟨vs, v, SqT.of hq, hv⟩, fun x H3 y => ⟨y.1, ?_⟩⟩
        have := y.2 vs (SqT.of hq)
        rw [hv] at this; cases this
        exact dp_mono e2.data dv
      | str sg =>
        cases z
        refine pi_imp (pi_str qa) fun σ H R ⟨Hs, av, env, k⟩ => ⟨Hs, av, env, fun v Hs1 H1 fp e1 o _ => ?_⟩
        refine ⟨sg, dp_str (own_dp o), k _ Hs1 H1 e1 fun Hs2 H2 e2 => ⟨fun j d hj => ?_, fun j hj => ?_⟩⟩
        · rw [List.getElem?_map] at hj
          obtain ⟨cc, qc, rfl⟩ := map_some hj
          have hlt : j < sg.cps.size := by
            have := (List.getElem?_eq_some_iff.mp qc).1
            simpa using this
          refine ⟨hlt, fun x H3 y => ⟨y.1, ?_⟩⟩
          obtain ⟨c', hc', hx'⟩ := y.2
          have : sg.cps.toList[j]? = some c' := by simpa using hc'
          rw [qc] at this
          cases this
          rw [hx']
          exact .str _
        · show sg.cps.size ≤ j
          simpa using hj
      | _ => cases z
    | _ => cases z
  · cases z
theorem wkq_rng {K : PySem.W.Frag} {Hs H : Hp} {lo : Int} {n : Nat} : WkQ K Hs H (Itr lo n) (rng lo n) := fun Hs1 H1 _ => by
  refine ⟨fun j d hj => ?_, fun j hj => ?_⟩
  · unfold rng at hj
    rw [List.getElem?_map] at hj
    obtain ⟨i, q, rfl⟩ := map_some hj
    obtain ⟨hlt, e⟩ := List.getElem?_eq_some_iff.mp q
    simp at e hlt
    subst e
    exact ⟨hlt, fun x H3 y => ⟨y.1, by rw [y.2]; exact .int _⟩⟩
  · show n ≤ j
    simpa [rng] using hj
noncomputable def itR (sd : FD) : En → Option (List PyData) := fun ρ => match okk (sd ρ) with
  | some (.int n) => @ite _ (-(2 ^ 62) ≤ n ∧ n < 2 ^ 62) (Classical.propDecidable _) (some (rng 0 n.toNat)) none
  | _ => none
theorem si_range {p1 : Pos} (hr : X.mg "range" = none) (he : SD X W e sd) (hg : Gl X "range" := by rfl) (hst : starEach [e] X.env = [(false, eval e X.env)] := by rfl) : SI X tg (.Call (.Name "range" p1) [e] [] p2) (itR sd) := fun ρ ds z => by
  unfold itR at z
  split at z
  · rename_i n q
    split at z
    · rename_i hz
      cases z
      refine pi_imp (pi_range1 hg hr (qs_cons (he.ok _ _ (okk_some q)) qs_nil hst) hst) fun σ H R ⟨Hs, av, env, k⟩ => ⟨Hs, av, env, fun vs Hs1 H1 e1 qq => ?_⟩
      obtain ⟨v, rfl, q1⟩ := dpAll_1 qq
      rw [dp_int q1]
      exact ⟨n, rfl, hz.1, hz.2, k _ Hs1 H1 e1 wkq_rng⟩
    · cases z
  · cases z
noncomputable def itR2 (sd sd' : FD) : En → Option (List PyData) := fun ρ => match okk (sd ρ), okk (sd' ρ) with
  | some (.int l), some (.int n) => @ite _ (-(2 ^ 62) ≤ l ∧ l < 2 ^ 62 ∧ -(2 ^ 62) ≤ n ∧ n < 2 ^ 62) (Classical.propDecidable _) (some (rng l (n - l).toNat)) none
  | _, _ => none
theorem si_range2 {p1 : Pos} (hr : X.mg "range" = none) (he : SD X W e sd) (he2 : SD X W a sd') (hg : Gl X "range" := by rfl) (hst : starEach [e, a] X.env = [(false, eval e X.env), (false, eval a X.env)] := by rfl) (hst2 : starEach [a] X.env = [(false, eval a X.env)] := by rfl) : SI X tg (.Call (.Name "range" p1) [e, a] [] p2) (itR2 sd sd') := fun ρ ds z => by
  unfold itR2 at z
  split at z
  · rename_i l n q q'
    split at z
    · rename_i hz
      cases z
      refine pi_imp (pi_range2 hg hr (qs_cons (he.ok _ _ (okk_some q)) (qs_cons (he2.ok _ _ (okk_some q')) qs_nil hst2) (hst.trans (by rw [hst2]))) hst hst2) fun σ H R ⟨Hs, av, env, k⟩ => ⟨Hs, av, env, fun vs Hs1 H1 e1 qq => ?_⟩
      obtain ⟨v, w, rfl, q1, q2⟩ := dpAll_2 qq
      rw [dp_int q1, dp_int q2]
      exact ⟨l, n, rfl, hz, k _ Hs1 H1 e1 wkq_rng⟩
    · cases z
  · cases z
/-! ### the block -/
theorem trOf_put {j : Nat} {r : Rs} {d : PyData} (h : trOf (put ρ i (.ow (.da d))) j = some r) (hi : i < ρ.length) : (j = i ∧ r = .da d) ∨ (j ≠ i ∧ trOf ρ j = some r ∧ ∀ k π, ρ[j]? = some (.al k π) → k ≠ i) := by
  have hl : i < (dropA i ρ).length := by rw [dropA_len]; exact hi
  by_cases hj : j = i
  · subst hj
    unfold trOf put at h
    rw [List.getElem?_set_self hl] at h
    cases h
    exact .inl ⟨rfl, rfl⟩
  · right
    refine ⟨hj, ?_⟩
    unfold trOf put at h
    rw [List.getElem?_set_ne (fun z => hj z.symm)] at h
    cases hq : (dropA i ρ)[j]? with
    | none => rw [hq] at h; cases h
    | some s =>
      rw [hq] at h
      rw [dropA_map, List.getElem?_map] at hq
      obtain ⟨s0, q0, q1⟩ := map_some hq
      cases s0 with
      | un => simp at q1; subst q1; cases h
      | ow r0 => simp at q1; subst q1; unfold trOf; rw [q0]; exact ⟨h, fun k π z => by cases z⟩
      | bo r0 => simp at q1; subst q1; unfold trOf; rw [q0]; exact ⟨h, fun k π z => by cases z⟩
      | al k π =>
        by_cases hk : k = i
        · simp [hk] at q1; subst q1; cases h
        · simp [hk] at q1
          subst q1
          refine ⟨?_, fun k' π' z => by rw [q0] at z; cases z; exact hk⟩
          unfold trOf
          rw [q0]
          simp only at h ⊢
          rw [List.getElem?_set_ne (fun z => hk z.symm), dropA_map, List.getElem?_map] at h
          cases q2 : ρ[k]? with
          | none => rw [q2] at h; cases h
          | some s2 =>
            rw [q2] at h
            cases s2 with
            | al k2 π2 =>
              by_cases h2 : k2 = i
              · simp [h2] at h
              · simp [h2] at h
            | _ => simpa using h
theorem envQ_blk {K : PySem.W.Frag} {Hs H : Hp} {av : Addr → Prop} {σ : St} {v : V} {d : PyData} (env : EnvQ K Hs H av σ ρ) (dv : Dp K Hs v d) (hi : i < σ.length) (hl : i < ρ.length) : EnvQ K Hs H av ((wipe σ [i]).set i (some v)) (put ρ i (.ow (.da d))) := by
  have sg : ∀ j, j ≠ i → ((wipe σ [i]).set i (some v))[j]? = σ[j]? := fun j hj => by
    rw [List.getElem?_set_ne (fun z => hj z.symm)]
    show ((σ).set i none)[j]? = _
    rw [List.getElem?_set_ne (fun z => hj z.symm)]
  refine ⟨env.sub, env.nod, env.avo, fun j r h => ?_, fun j k π h => ?_⟩
  · rcases trOf_put h hl with ⟨rfl, rfl⟩ | ⟨hj, h2, _⟩
    · exact ⟨v, [], by rw [List.getElem?_set_self (by rw [wipe_length]; exact hi)], .da dv, by simp⟩
    · obtain ⟨w, fp, q, o⟩ := env.sl j r h2
      exact ⟨w, fp, by rw [sg j hj]; exact q, o⟩
  · have hl' : i < (dropA i ρ).length := by rw [dropA_len]; exact hl
    unfold put at h
    by_cases hj : j = i
    · subst hj
      rw [List.getElem?_set_self hl'] at h; cases h
    · rw [List.getElem?_set_ne (fun z => hj z.symm)] at h
      obtain ⟨h2, hk⟩ := dropA_al h
      obtain ⟨v', u, a, w, b⟩ := env.als j k π h2
      exact ⟨v', u, by rw [sg k hk]; exact a, w, by rw [sg j hj]; exact b⟩
def lcL (i : Nat) (t : En → Option Bool) (sd : FD) (ρ : En) : List PyData → Option (List PyData)
  | [] => some []
  | d :: ds => match t (put ρ i (.ow (.da d))) with
    | some true => (match okk (sd (put ρ i (.ow (.da d)))), lcL i t sd ρ ds with
      | some y, some ys => some (y :: ys)
      | _, _ => none)
    | some false => lcL i t sd ρ ds
    | none => none
theorem lcL_rs : ∀ {ds es : List PyData}, lcL i t sd ρ ds = some es → ∃ rs : List (Option PyData), rs.length = ds.length ∧ rs.filterMap id = es ∧ ∀ (j : Nat) d y, ds[j]? = some d → rs[j]? = some y → t (put ρ i (.ow (.da d))) = some y.isSome ∧ ∀ z, y = some z → sd (put ρ i (.ow (.da d))) = some (.ok z)
  | [], es, h => by cases h; exact ⟨[], rfl, rfl, fun j d y h => by simp at h⟩
  | d :: ds, es, h => by
    unfold lcL at h
    split at h
    · rename_i ht
      split at h
      · rename_i y ys q1 q2
        cases h
        obtain ⟨rs, h1, h2, h3⟩ := lcL_rs q2
        refine ⟨some y :: rs, by simp [h1], by simp [h2], fun j d' y' hd hy => ?_⟩
        cases j with
        | zero => simp at hd hy; subst hd; subst hy; exact ⟨ht, fun z hz => by cases hz; exact okk_some q1⟩
        | succ j => exact h3 j d' y' (by simpa using hd) (by simpa using hy)
      · cases h
    · rename_i ht
      obtain ⟨rs, h1, h2, h3⟩ := lcL_rs h
      refine ⟨none :: rs, by simp [h1], by simp [h2], fun j d' y' hd hy => ?_⟩
      cases j with
      | zero => simp at hd hy; subst hd; subst hy; exact ⟨ht, fun z hz => by cases hz⟩
      | succ j => exact h3 j d' y' (by simpa using hd) (by simpa using hy)
    · cases h
def tElQ (K : PySem.W.Frag) (ρ : En) (i : Nat) (ds : List PyData) (rs : List (Option PyData)) : TE := fun σ H Q => ∃ (j : Nat) (d y : PyData), ds[j]? = some d ∧ rs[j]? = some (some y) ∧ tV K (put ρ i (.ow (.da d))) (.da y) σ H Q
def tTsQ (K : PySem.W.Frag) (ρ : En) (i : Nat) (ds : List PyData) (rs : List (Option PyData)) : TT := fun σ H Q => ∃ (j : Nat) (d : PyData) (y : Option PyData), ds[j]? = some d ∧ rs[j]? = some y ∧ tQT K (put ρ i (.ow (.da d))) y.isSome σ H Q
theorem tlc_ok {K : PySem.W.Frag} {σ : St} {H : Hp} {Q : VK} {wi : TI} {tt : TT} {te : TE} {Hs : Hp} {av : Addr → Prop} {ds : List PyData} {rs : List (Option PyData)} (env : EnvQ K Hs H av σ ρ) (hi : i < σ.length) (hl : i < ρ.length) (hlen : rs.length = ds.length) (hz : ds.length ≤ 100000)
    (hw : ∀ R, tItQ K ρ ds σ H R → wi σ H R)
    (ht : ∀ (j : Nat) (d : PyData) (y : Option PyData) σ' H' Q', ds[j]? = some d → rs[j]? = some y → tQT K (put ρ i (.ow (.da d))) y.isSome σ' H' Q' → tt σ' H' Q')
    (he : ∀ (j : Nat) (d y : PyData) σ' H' Q', ds[j]? = some d → rs[j]? = some (some y) → tV K (put ρ i (.ow (.da d))) (.da y) σ' H' Q' → te σ' H' Q')
    (k : ∀ v Hs' H' fp, Ext Hs H Hs' H' → Own K (.own []) Hs' H' v (.lst (rs.filterMap id)) fp → fp.Nodup → (∀ a ∈ fp, H a = none ∧ Hs' a = none) → Q v H') : tLc wi (gName i) tt te [i] σ H Q := by
  refine hw _ ⟨Hs, av, env, fun J Hs1 H1 e1 wk D hD => ?_⟩
  have nD : Hs1 D = none := e1.sub.free hD
  refine ⟨fun j m H' => ∃ Hs' acc, m = ds.length - j ∧ j ≤ ds.length ∧ Ext Hs1 H1 Hs' H' ∧ Hs' D = none ∧ H' D = some (.lst acc) ∧ DpAll K Hs' acc ((rs.take j).filterMap id),
    ⟨_, Hs1, [], rfl, Nat.zero_le _, Ext.more e1.sub hD, nD, upd_same, by rw [List.take_zero]; exact .nil⟩, ?_⟩
  rintro j m H' ⟨Hs', acc, rfl, hj, e2, nD', hacc, dacc⟩
  obtain ⟨wg, ws⟩ := wk Hs' H' e2
  by_cases hlt : j < ds.length
  · have hdj : ds[j]? = some ds[j] := List.getElem?_eq_getElem hlt
    have hrl : j < rs.length := by omega
    have hrj : rs[j]? = some rs[j] := List.getElem?_eq_getElem hrl
    obtain ⟨g, y⟩ := wg j _ hdj
    have tk : (rs.take (j + 1)).filterMap id = (rs.take j).filterMap id ++ (match rs[j] with | some z => [z] | none => []) := by
      rw [List.take_add_one, hrj, List.filterMap_append]
      cases rs[j] <;> rfl
    have accl : acc.length ≤ 100000 := by
      rw [dpAll_length dacc]
      exact Nat.le_trans (List.length_filterMap_le ..) (by rw [List.length_take]; omega)
    refine .inr ⟨g, fun H2 => ∃ Hs2 acc2, Ext Hs1 H1 Hs2 H2 ∧ Hs2 D = none ∧ H2 D = some (.lst acc2) ∧ DpAll K Hs2 acc2 ((rs.take (j + 1)).filterMap id), fun H2 ⟨Hs2, acc2, q1, q2, q3, q4⟩ => ⟨ds.length - (j + 1), by omega, Hs2, acc2, rfl, hlt, q1, q2, q3, q4⟩, fun x H3 yl => ?_⟩
    obtain ⟨rfl, dx⟩ := y x H3 yl
    have env2 : EnvQ K Hs' H3 av ((wipe σ [i]).set i (some x)) (put ρ i (.ow (.da ds[j]))) := envQ_blk (envQ_ext (e1.trans e2) env) dx hi hl
    refine ⟨?_, ?_⟩
    · show (((σ).set i none).set i (some x)).set i none = (σ).set i none
      rw [List.set_set, List.set_set]
    · have nfree : ∀ {Hsa Ha Hsb Hb : Hp}, Ext Hsa Ha Hsb Hb → Hsa D = none → (∃ o, Ha D = some o) → Hsb D = none := fun {Hsa Ha Hsb Hb} e n ⟨o, ho⟩ => by
        cases q : Hsb D with
        | none => rfl
        | some o' =>
          rcases e.new D o' q with z | z
          · rw [n] at z; cases z
          · rw [ho] at z; cases z.1
      refine ht j _ _ _ _ _ hdj hrj ⟨Hs', av, env2, fun Hs3 H4 e3 => ?_⟩
      have nD3 : Hs3 D = none := nfree e3 nD' ⟨_, hacc⟩
      cases hr : rs[j] with
      | none =>
        refine iteF ⟨Hs3, acc, e2.trans e3, nD3, e3.all _ _ hacc, ?_⟩
        rw [tk, hr, List.append_nil]
        exact dpAll_mono e3.data dacc
      | some z =>
        refine iteT (he j _ z _ _ _ hdj (by rw [hrj, hr]) (tq_data (envQ_ext e3 env2) fun v Hs5 H5 e5 dv => ?_))
        have nD5 : Hs5 D = none := nfree e5 nD3 ⟨_, e3.all _ _ hacc⟩
        have e6 := (e2.trans e3).trans e5
        refine ⟨acc, e5.all _ _ (e3.all _ _ hacc), Nat.lt_of_le_of_lt accl (by decide), Hs5, acc ++ [v], ⟨e6.data, fun b o z => ?_, fun b o z => ?_, e6.new⟩, nD5, upd_same, ?_⟩
        · rw [upd_ne (ne_of_none z hD)]; exact e6.all b o z
        · have : b ≠ D := fun q => by rw [q, nD5] at z; cases z
          rw [upd_ne this]; exact e6.sub b o z
        · rw [tk, hr]
          exact dpAll_append (dpAll_mono e5.data (dpAll_mono e3.data dacc)) (.cons dv .nil)
  · have hje : j = ds.length := by omega
    subst hje
    refine .inl ⟨ws _ (Nat.le_refl _), ?_⟩
    rw [← hlen, List.take_length] at dacc
    exact k (.ref D) Hs' H' [D] (e1.trans e2) (.lst hacc dacc) (by simp) fun a m => by
      have z : a = D := by simpa using m
      subst z
      exact ⟨e1.all.free hD, nD'⟩
def lcC (i : Nat) (si : En → Option (List PyData)) (t : En → Option Bool) (sd : FD) : FE := fun ρ => match si ρ with
  | some ds => if ds.length ≤ 100000 ∧ i < ρ.length then (lcL i t sd ρ ds).map fun es => .ok (.lst es) else none
  | none => none
def yesT : En → Option Bool := fun _ => some true
/-- the tests of a comprehension -/
def STs (X : Cx) (ts : List Expr) (t : En → Option Bool) : Prop := ∀ ρ b, t ρ = some b → PTs X ts (tQT X.K ρ b)
theorem sts_nil : STs X [] yesT := fun ρ b z => by
  cases z
  exact ⟨fun pins s σ H Q I ⟨Hs, av, env, k⟩ => pts_nil.run pins s σ H Q I (k Hs H (.refl env.sub))⟩
theorem sts_one (h : ST X a t) : STs X [a] t := fun ρ b z => pts_one (h ρ b z)
theorem sv_lc {n : Str} {scope : Scope} {ts : List Expr} {si : En → Option (List PyData)} (hc : X.calm = true) (hN : X.N.Nodup) (hi : X.N[i]? = some n) (hI : SI X (.Name n pp) iter si) (ok : BlkOk X.N X.env.scope scope [(n, i)])
    (hg : ∀ (s : Shared) (H : Hp) (C : Addr) (cl : List (Str × Addr)) (fp : List Addr), PG (bk X s H scope C cl fp) (.Name n pp) (gName i))
    (ht : ∀ (s : Shared) (H : Hp) (C : Addr) (cl : List (Str × Addr)) (fp : List Addr), STs (bk X s H scope C cl fp) ts t)
    (he : ∀ (s : Shared) (H : Hp) (C : Addr) (cl : List (Str × Addr)) (fp : List Addr), SD (bk X s H scope C cl fp) W0 elt sd)
    (hs : ∀ x, foldedSetIterable iter X.env x = pure x := by intro _; rfl) : SV X W (.ListComp elt [⟨.Name n pp, iter, ts, 0⟩] scope pos) (lcC i si t sd) := by
  refine ⟨fun ρ r z => ?_, fun ρ cc z => ?_⟩ <;> unfold lcC at z <;> split at z
  · rename_i ds q
    split at z
    · rename_i hz
      obtain ⟨es, q2, z⟩ := map_some z
      cases z
      obtain ⟨rs, h1, rfl, h3⟩ := lcL_rs q2
      have he' : ∀ (s : Shared) (H : Hp) (C : Addr) (cl : List (Str × Addr)) (fp : List Addr), PE (bk X s H scope C cl fp) elt (tElQ X.K ρ i ds rs) := fun s H C cl fp => ⟨fun pins s' σ H' Q I ⟨j, d, y, g1, g2, t⟩ => ((he s H C cl fp).ok _ _ ((h3 j d _ g1 g2).2 y rfl)).run pins s' σ H' Q I t⟩
      have ht' : ∀ (s : Shared) (H : Hp) (C : Addr) (cl : List (Str × Addr)) (fp : List Addr), PTs (bk X s H scope C cl fp) ts (tTsQ X.K ρ i ds rs) := fun s H C cl fp => ⟨fun pins s' σ H' Q I ⟨j, d, y, g1, g2, t⟩ => ((ht s H C cl fp) _ _ (h3 j d _ g1 g2).1).run pins s' σ H' Q I t⟩
      have hp := pe_lc (pos := pos) (own := [(n, i)]) hc hN (hI ρ ds q) ok hg ht' he' hs
      refine ⟨fun pins s σ H Q I ⟨Hs, av, env, k⟩ => hp.run pins s σ H Q I ?_⟩
      have hi' : i < σ.length := by rw [I.len]; exact (List.getElem?_eq_some_iff.mp hi).1
      exact tlc_ok (rs := rs) env hi' hz.2 h1 hz.1 (fun R t => t) (fun j d y σ' H' Q' g1 g2 t => ⟨j, d, y, g1, g2, t⟩) (fun j d y σ' H' Q' g1 g2 t => ⟨j, d, y, g1, g2, t⟩) k
    · cases z
  · cases z
  · split at z
    · obtain ⟨es, q2, z⟩ := map_some z
      cases z
    · cases z
  · cases z
/-- y = [elt for n in iter], on one line -/
theorem ss_setLc {mk : List Bool} {n yn : Str} {scope : Scope} {py spos : Pos} {m : Nat} {ts : List Expr} {si : En → Option (List PyData)} (hc : X.calm = true) (hN : X.N.Nodup) (hy : X.N[m]? = some yn) (hi : X.N[i]? = some n) (hI : SI X (.Name n pp) iter si) (ok : BlkOk X.N X.env.scope scope [(n, i)])
    (hg : ∀ (s : Shared) (H : Hp) (C : Addr) (cl : List (Str × Addr)) (fp : List Addr), PG (bk X s H scope C cl fp) (.Name n pp) (gName i))
    (ht : ∀ (s : Shared) (H : Hp) (C : Addr) (cl : List (Str × Addr)) (fp : List Addr), STs (bk X s H scope C cl fp) ts t)
    (he : ∀ (s : Shared) (H : Hp) (C : Addr) (cl : List (Str × Addr)) (fp : List Addr), SD (bk X s H scope C cl fp) W0 elt sd)
    (hyl : X.env.scope.names.lookup yn = some .local := by rfl)
    (hsw : swapsWith (.ListComp elt [⟨.Name n pp, iter, ts, 0⟩] scope pos) (some (.Name yn py)) spos.line X.env = pure true := by exact sw_true rfl rfl rfl (by decide +kernel))
    (hp : mk[m]? ≠ some true := by decide)
    (hs : ∀ x, foldedSetIterable iter X.env x = pure x := by intro _; rfl) : SS X mk W (.Assign [.Name yn py] (.ListComp elt [⟨.Name n pp, iter, ts, 0⟩] scope pos) spos) (setS m (qE (lcC i si t sd))) := fun ρ o z => by
  unfold setS qE lcC at z
  cases q : si ρ with
  | none => rw [q] at z; cases z
  | some ds =>
    rw [q] at z
    by_cases hz : ds.length ≤ 100000 ∧ i < ρ.length
    · simp only [if_pos hz] at z
      cases q2 : lcL i t sd ρ ds with
      | none => rw [q2] at z; cases z
      | some es =>
        rw [q2] at z
        simp only [Option.map_some] at z
        split at z
        · rename_i hl
          cases z
          obtain ⟨rs, h1, rfl, h3⟩ := lcL_rs q2
          have he' : ∀ (s : Shared) (H : Hp) (C : Addr) (cl : List (Str × Addr)) (fp : List Addr), PE (bk X s H scope C cl fp) elt (tElQ X.K ρ i ds rs) := fun s H C cl fp => ⟨fun pins s' σ H' Q I ⟨j, d, y, g1, g2, t⟩ => ((he s H C cl fp).ok _ _ ((h3 j d _ g1 g2).2 y rfl)).run pins s' σ H' Q I t⟩
          have ht' : ∀ (s : Shared) (H : Hp) (C : Addr) (cl : List (Str × Addr)) (fp : List Addr), PTs (bk X s H scope C cl fp) ts (tTsQ X.K ρ i ds rs) := fun s H C cl fp => ⟨fun pins s' σ H' Q I ⟨j, d, y, g1, g2, t⟩ => ((ht s H C cl fp) _ _ (h3 j d _ g1 g2).1).run pins s' σ H' Q I t⟩
          have hps := ps_setLc (pos := pos) (spos := spos) (own := [(n, i)]) hc hN hy hyl hsw (hI ρ ds q) ok hg ht' he' hs
          refine ⟨fun pins s σ H D I ⟨g, Hs, env, k⟩ => hps.run pins s σ H D I ?_⟩
          have hi' : i < σ.length := by rw [I.len]; exact (List.getElem?_eq_some_iff.mp hi).1
          exact tlc_ok (rs := rs) (env_q env) hi' hz.2 h1 hz.1 (fun R t => t) (fun j d y σ' H' Q' g1 g2 t => ⟨j, d, y, g1, g2, t⟩) (fun j d y σ' H' Q' g1 g2 t => ⟨j, d, y, g1, g2, t⟩) fun v Hs1 H1 fp e1 o n f => k _ Hs1 H1 e1.data (env_set (env_new e1 env o n f) hl hp)
        · cases z
    · simp only [if_neg hz] at z; cases z
/-- the same, as data -/
theorem ss_setLcF {mk : List Bool} {n yn : Str} {scope : Scope} {py spos : Pos} {m : Nat} {ts : List Expr} {si : En → Option (List PyData)} (hc : X.calm = true) (hN : X.N.Nodup) (hy : X.N[m]? = some yn) (hi : X.N[i]? = some n) (hI : SI X (.Name n pp) iter si) (ok : BlkOk X.N X.env.scope scope [(n, i)])
    (hg : ∀ (s : Shared) (H : Hp) (C : Addr) (cl : List (Str × Addr)) (fp : List Addr), PG (bk X s H scope C cl fp) (.Name n pp) (gName i))
    (ht : ∀ (s : Shared) (H : Hp) (C : Addr) (cl : List (Str × Addr)) (fp : List Addr), STs (bk X s H scope C cl fp) ts t)
    (he : ∀ (s : Shared) (H : Hp) (C : Addr) (cl : List (Str × Addr)) (fp : List Addr), SD (bk X s H scope C cl fp) W0 elt sd)
    (hyl : X.env.scope.names.lookup yn = some .local := by rfl)
    (hsw : swapsWith (.ListComp elt [⟨.Name n pp, iter, ts, 0⟩] scope pos) (some (.Name yn py)) spos.line X.env = pure true := by exact sw_true rfl rfl rfl (by decide +kernel))
    (hp : mk[m]? ≠ some true := by decide)
    (hs : ∀ x, foldedSetIterable iter X.env x = pure x := by intro _; rfl) : SS X mk W (.Assign [.Name yn py] (.ListComp elt [⟨.Name n pp, iter, ts, 0⟩] scope pos) spos) (setS m (fzE (qE (lcC i si t sd)))) := fun ρ o z => by
  unfold setS fzE qE lcC at z
  cases q : si ρ with
  | none => rw [q] at z; cases z
  | some ds =>
    rw [q] at z
    by_cases hz : ds.length ≤ 100000 ∧ i < ρ.length
    · simp only [if_pos hz] at z
      cases q2 : lcL i t sd ρ ds with
      | none => rw [q2] at z; cases z
      | some es =>
        rw [q2] at z
        simp only [Option.map_some] at z
        split at z
        · rename_i hl
          cases z
          obtain ⟨rs, h1, rfl, h3⟩ := lcL_rs q2
          have he' : ∀ (s : Shared) (H : Hp) (C : Addr) (cl : List (Str × Addr)) (fp : List Addr), PE (bk X s H scope C cl fp) elt (tElQ X.K ρ i ds rs) := fun s H C cl fp => ⟨fun pins s' σ H' Q I ⟨j, d, y, g1, g2, t⟩ => ((he s H C cl fp).ok _ _ ((h3 j d _ g1 g2).2 y rfl)).run pins s' σ H' Q I t⟩
          have ht' : ∀ (s : Shared) (H : Hp) (C : Addr) (cl : List (Str × Addr)) (fp : List Addr), PTs (bk X s H scope C cl fp) ts (tTsQ X.K ρ i ds rs) := fun s H C cl fp => ⟨fun pins s' σ H' Q I ⟨j, d, y, g1, g2, t⟩ => ((ht s H C cl fp) _ _ (h3 j d _ g1 g2).1).run pins s' σ H' Q I t⟩
          have hps := ps_setLc (pos := pos) (spos := spos) (own := [(n, i)]) hc hN hy hyl hsw (hI ρ ds q) ok hg ht' he' hs
          refine ⟨fun pins s σ H D I ⟨g, Hs, env, k⟩ => hps.run pins s σ H D I ?_⟩
          have hi' : i < σ.length := by rw [I.len]; exact (List.getElem?_eq_some_iff.mp hi).1
          exact tlc_ok (rs := rs) (env_q env) hi' hz.2 h1 hz.1 (fun R t => t) (fun j d y σ' H' Q' g1 g2 t => ⟨j, d, y, g1, g2, t⟩) (fun j d y σ' H' Q' g1 g2 t => ⟨j, d, y, g1, g2, t⟩) fun v Hs1 H1 fp e1 o n f => by
            obtain ⟨Hs2, s2, e2⟩ := env_freeze (env_new e1 env o n f)
            exact k _ Hs2 H1 (e1.data.trans s2) (env_set e2 hl hp)
        · cases z
    · simp only [if_neg hz] at z; cases z
end
end Cg

/-! Slices, membership, places in a list. -/
namespace Cg
open PySem L2
section
variable {X : Cx} {mk : List Bool} {W : WX} {e a b c o : Expr} {es : List Expr} {pos pp p2 apos cpos : Pos} {sa sb : FE} {sd sd' : FD} {t : En → Option Bool} {i : Nat} {ρ : En}
/-! ### slices -/
def cutG {α : Type} (xs : List α) (lo hi : Option Int) : List α := (xs.drop (HT.sIx xs.length 0 lo)).take (HT.sIx xs.length xs.length hi - HT.sIx xs.length 0 lo)
theorem dpAll_cut {K : PySem.W.Frag} {H : Hp} {xs : List V} {ds : List PyData} (h : DpAll K H xs ds) (lo hi : Option Int) : DpAll K H (cutV xs lo hi) (cutG ds lo hi) := by
  unfold cutV cutG
  rw [dpAll_length h]
  exact dpAll_take _ (dpAll_drop _ h)
def SO (X : Cx) (e : Option Expr) (s : En → Option (Option Int)) : Prop := ∀ ρ z, s ρ = some z → PO X e (fun σ H Q => ∃ Hs av, EnvQ X.K Hs H av σ ρ ∧ ∀ Hs' H', Ext Hs H Hs' H' → Q z H')
def noO : En → Option (Option Int) := fun _ => some none
def intO (sd : FD) : En → Option (Option Int) := fun ρ => match okk (sd ρ) with
  | some (.int k) => some (some k)
  | _ => none
theorem so_none : SO X none noO := fun ρ z h => by
  cases h
  exact ⟨fun pins s σ H Q I ⟨Hs, av, env, k⟩ => po_none.run pins s σ H Q I (k Hs H (.refl env.sub))⟩
theorem so_some (h : SD X W e sd) : SO X (some e) (intO sd) := fun ρ z q => by
  unfold intO at q
  split at q
  · rename_i k q1
    cases q
    exact ⟨fun pins s σ H Q I ⟨Hs, av, env, q⟩ => (po_some (h.ok _ _ (okk_some q1))).run pins s σ H Q I (tq_data env fun v Hs1 H1 e1 dv => ⟨k, dp_int dv, q Hs1 H1 e1⟩)⟩
  · cases q
def cutR (r : Rs) (lo hi : Option Int) : Option Rs := match r with
  | .da (.str z) => if z.length ≤ sizeLine then some (.da (.str (cutS z lo hi))) else none
  | r => (asL r).map fun ds => .lst (cutG ds lo hi)
def sliceC (sa : FE) (lo hi : En → Option (Option Int)) : FE := fun ρ => match okk (sa ρ), lo ρ, hi ρ with
  | some r, some zl, some zh => (cutR r zl zh).map .ok
  | _, _, _ => none
theorem sv_slice {lo hi : Option Expr} {sl sh : En → Option (Option Int)} (ha : SA X W e sa) (hl : SO X lo sl) (hh : SO X hi sh) : SV X W (.Subscript e (.Slice lo hi none p2) pos) (sliceC sa sl sh) := by
  refine ⟨fun ρ x z => ?_, fun ρ cc z => ?_⟩ <;> unfold sliceC at z <;> split at z
  · rename_i r zl zh q1 q2 q3
    obtain ⟨y, q, z⟩ := map_some z
    cases z
    have qa := ha.ok _ _ (okk_some q1)
    have tri : ∀ {rr : V → Option Int → Option Int → Hp → VK → Prop}, SlR X rr → (∀ v Hs H Q fp, Same Hs H → Own X.K .rdo Hs H v r fp → (∀ u Hs' H' fq, Ext Hs H Hs' H' → Own X.K (.own []) Hs' H' u x fq → fq.Nodup → (∀ a ∈ fq, H a = none ∧ Hs' a = none) → Q u H') → rr v zl zh H Q) → QV X (.Subscript e (.Slice lo hi none p2) pos) ρ x := fun {rr} hr hk =>
      pe_imp (pe_slice hr qa (hl _ _ q2) (hh _ _ q3)) fun σ H Q ⟨Hs, av, env, k⟩ => ⟨Hs, av, env, fun v Hs1 H1 fp e1 ow _ => ⟨Hs1, av, envQ_ext e1 env, fun Hs2 H2 e2 => ⟨Hs2, av, envQ_ext (e1.trans e2) env, fun Hs3 H3 e3 =>
        hk v Hs3 H3 Q fp e3.sub (own_mono' (e2.trans e3).data (e2.trans e3).all ow) fun u Hs4 H4 fq e4 o4 n4 f4 => k u Hs4 H4 fq (((e1.trans e2).trans e3).trans e4) o4 n4 fun a m => ⟨((e1.trans e2).trans e3).all.free (f4 a m).1, (f4 a m).2⟩⟩⟩⟩
    unfold cutR at q
    split at q
    · split at q
      · rename_i hz
        cases q
        exact tri sl_str fun v Hs H Q fp s o k => by
          rw [dp_str (own_dp o)]
          exact ⟨_, rfl, hz, kdat s (.str _) k⟩
      · cases q
    · obtain ⟨ds, h1, rfl⟩ := map_some q
      exact tri sl_list fun v Hs H Q fp s o k => by
        obtain ⟨l, vs, rfl, e1, d1⟩ := asL_own s o h1
        exact ⟨l, vs, rfl, SqL.of e1, kfree s (dpAll_cut d1 _ _) k⟩
  · cases z
  · obtain ⟨y, q, z⟩ := map_some z
    cases z
  · cases z
/-! ### membership -/
def keysD : List PyData → Option (List Key)
  | [] => some []
  | d :: ds => match keyD d, keysD ds with
    | some k, some ks => some (k :: ks)
    | _, _ => none
theorem keysD_dp {K : PySem.W.Frag} {H : Hp} : ∀ {vs : List V} {ds : List PyData} {ks : List Key}, DpAll K H vs ds → keysD ds = some ks → vs = ks.map kV
  | _, _, _, .nil, h => by cases h; rfl
  | _, _, _, .cons d t, h => by
    unfold keysD at h
    split at h
    · rename_i q1 q2
      cases h
      rw [keyD_dp d q1, keysD_dp t q2]; rfl
    · cases h
def valT (k : List Key) : List (List Key × PyData) → Option PyData
  | [] => none
  | (k', y) :: r => if k' = k then some y else valT k r
theorem valT_v {K : PySem.W.Frag} {H : Hp} {k : List Key} : ∀ {kvv : List (List Key × V)} {kvs : List (List Key × PyData)}, kvv.map (·.1) = kvs.map (·.1) → DpAll K H (kvv.map (·.2)) (kvs.map (·.2)) → (∀ y, valT k kvs = some y → ∃ u, valV kvv k = some u ∧ Dp K H u y) ∧ (valT k kvs = none → valV kvv k = none)
  | [], [], _, _ => ⟨fun y h => (by cases h), fun _ => rfl⟩
  | [], _ :: _, h, _ => by simp at h
  | _ :: _, [], h, _ => by simp at h
  | (k1, v) :: kvv, (k2, d) :: kvs, h, hd => by
    simp only [List.map_cons, List.cons.injEq] at h
    obtain ⟨rfl, h⟩ := h
    cases hd with
    | cons d1 t =>
      obtain ⟨i1, i2⟩ := valT_v (k := k) h t
      unfold valT
      by_cases hk : k1 = k
      · simp only [if_pos hk]
        exact ⟨fun y z => by cases z; exact ⟨v, valV_pos hk, d1⟩, fun z => by cases z⟩
      · simp only [if_neg hk]
        have e : valV ((k1, v) :: kvv) k = valV kvv k := by simp [valV, List.find?_cons, hk]
        rw [e]
        exact ⟨i1, i2⟩
def inR (a b : Rs) : Option Bool := match a, b with
  | .da (.str x), .da (.str z) => (match x.cps.toList with
    | [c] => some (decide (c ∈ z.cps.toList))
    | _ => none)
  | .da d, .dct _ kvs => (match keyD d with
    | some k => some (valR k kvs).isSome
    | none => none)
  | .da (.tuple ds), .dtt kvs => (match keysD ds with
    | some k => some (valT k kvs).isSome
    | none => none)
  | .da d, b => (match asL b with
    | some ds => if SeqAt.shaped d && SeqAt.shaped (.list ds) then some (ds.any fun z => PyData.eqv z d) else none
    | none => none)
  | _, _ => none
def notInR (a b : Rs) : Option Bool := (inR a b).map (!·)
theorem op_dIn (hu : X.A.units + 1 < cLine) : OpR X (compareOp .In) (fun y x H Q => ∃ a o, x = .ref a ∧ DGet H a y o ∧ Q (.bl o.isSome) H) := by
  intro pins s σ H y x v u Q I ry rx ⟨a, o, ex, g, q⟩
  subst ex
  cases rx
  exact d_in hu I g ry fun s3 I3 => ⟨.bl o.isSome, H, I3, rfl, q⟩
theorem op_dNotIn (hu : X.A.units + 1 < cLine) : OpR X (compareOp .NotIn) (fun y x H Q => ∃ a o, x = .ref a ∧ DGet H a y o ∧ Q (.bl (!o.isSome)) H) := by
  intro pins s σ H y x v u Q I ry rx ⟨a, o, ex, g, q⟩
  subst ex
  cases rx
  exact d_notIn hu I g ry fun s3 I3 => ⟨.bl (!o.isSome), H, I3, rfl, q⟩
theorem units65 {k : Nat} (hr : Room k X.A) : X.A.units + 65 < cLine := by
  have := hr.un
  omega
theorem inR_r {r1 r2 : Rs} {t : Bool} {v w : V} {Hs H : Hp} {Q : VK} {fp fq : List Addr} (f : Bool → Bool) (h : inR r1 r2 = some t) (s : Same Hs H) (o1 : Own X.K .rdo Hs H v r1 fp) (o2 : Own X.K .rdo Hs H w r2 fq) (k : Q (.bl (f t)) H) :
    (∃ (c : Nat) (z : Str), v = .str ⟨#[c]⟩ ∧ w = .str z ∧ Q (.bl (f (decide (c ∈ z.cps.toList)))) H) ∨ (∃ a o, w = .ref a ∧ DGet H a v o ∧ Q (.bl (f o.isSome)) H) ∨ ∃ d ds, L2.Dp X.K H v d ∧ L2.Dp X.K H w (.list ds) ∧ SeqAt.shaped d = true ∧ SeqAt.shaped (.list ds) = true ∧ Q (.bl (f (ds.any fun z => PyData.eqv z d))) H := by
  unfold inR at h
  split at h
  · rename_i x z
    split at h
    · rename_i c hc
      cases h
      refine .inl ⟨c, z, ?_, dp_str (own_dp o2), k⟩
      rw [dp_str (own_dp o1)]
      congr 1
      cases x with | mk cps => exact congrArg Str.mk (by rw [← Array.toList_inj]; simpa using hc)
    · cases h
  · rename_i d n kvs
    split at h
    · rename_i kk hk
      cases h
      cases o2 with
      | dct h1 nk h2 =>
        refine .inr (.inl ⟨_, valV _ kk, rfl, .inl ⟨_, kk, dctAt_rd h1, keyD_dp (own_dp o1) hk, rfl⟩, ?_⟩)
        cases q : valR kk kvs with
        | none => rw [q] at k; rw [ownK_none h2 q]; exact k
        | some y =>
          rw [q] at k
          obtain ⟨u, _, _, l, _⟩ := ownK_foc h2 q
          rw [l]; exact k
    · cases h
  · rename_i ds kvs
    split at h
    · rename_i kk hk
      cases h
      cases o2 with
      | dtt h1 h2 h3 =>
        obtain ⟨p, xs, rfl, q1, rr⟩ := dp_tup (own_dp o1)
        have e := keysD_dp rr hk
        subst e
        refine .inr (.inl ⟨_, valV _ kk, rfl, .inr ⟨_, kk, p, .inl h1, rfl, s _ _ q1, rfl⟩, ?_⟩)
        obtain ⟨i1, i2⟩ := valT_v (k := kk) h2 h3
        cases q : valT kk kvs with
        | none => rw [q] at k; rw [i2 q]; exact k
        | some y =>
          rw [q] at k
          obtain ⟨u, l, _⟩ := i1 y q
          rw [l]; exact k
    · cases h
  · rename_i d b' _ _ _
    split at h
    · rename_i ds hd
      split at h
      · rename_i hs
        cases h
        obtain ⟨s1, s2⟩ := Bool.and_eq_true_iff.mp hs
        obtain ⟨l, vs, rfl, e1, d1⟩ := asL_own s o2 hd
        exact .inr (.inr ⟨_, ds, dp_l2 (dp_mono s (own_dp o1)), dp_l2 (.lst e1 (dpAll_mono s d1)), s1, s2, k⟩)
      · cases h
    · cases h
  · cases h
theorem st_in {k : Nat} (hr : Room k X.A) (ha : SA X W a sa) (hb : SA X W b sb) (hm : behindInMarks .In b = false := by with_unfolding_all rfl) : ST X (.Compare a [.In] [b] pos) (cm2 inR sa sb) :=
  st_cmp (op_in_sign.or ((op_dIn (hu_of hr)).or (op_inD (units65 hr)))) ha hb hm fun _ _ _ v w Hs H Q fp fq h s o1 o2 k => inR_r (fun b => b) h s o1 o2 k
theorem sv_in {k : Nat} (hr : Room k X.A) (ha : SA X W a sa) (hb : SA X W b sb) (hm : behindInMarks .In b = false := by with_unfolding_all rfl) : SV X W (.Compare a [.In] [b] pos) (bV (cm2 inR sa sb)) :=
  sv_cmp (op_in_sign.or ((op_dIn (hu_of hr)).or (op_inD (units65 hr)))) ha hb hm fun _ _ _ v w Hs H Q fp fq h s o1 o2 k => inR_r (fun b => b) h s o1 o2 k
theorem notInR_r {r1 r2 : Rs} {t : Bool} (h : notInR r1 r2 = some t) : ∃ t', inR r1 r2 = some t' ∧ t = !t' := by
  obtain ⟨t', q, rfl⟩ := map_some h
  exact ⟨t', q, rfl⟩
theorem st_notIn {k : Nat} (hr : Room k X.A) (ha : SA X W a sa) (hb : SA X W b sb) (hm : behindInMarks .NotIn b = false := by with_unfolding_all rfl) : ST X (.Compare a [.NotIn] [b] pos) (cm2 notInR sa sb) :=
  st_cmp (op_notIn_sign.or ((op_dNotIn (hu_of hr)).or (op_notInD (units65 hr)))) ha hb hm fun _ _ _ v w Hs H Q fp fq h s o1 o2 k => by
    obtain ⟨t', q, rfl⟩ := notInR_r h
    exact inR_r (fun b => !b) q s o1 o2 k
theorem sv_notIn {k : Nat} (hr : Room k X.A) (ha : SA X W a sa) (hb : SA X W b sb) (hm : behindInMarks .NotIn b = false := by with_unfolding_all rfl) : SV X W (.Compare a [.NotIn] [b] pos) (bV (cm2 notInR sa sb)) :=
  sv_cmp (op_notIn_sign.or ((op_dNotIn (hu_of hr)).or (op_notInD (units65 hr)))) ha hb hm fun _ _ _ v w Hs H Q fp fq h s o1 o2 k => by
    obtain ⟨t', q, rfl⟩ := notInR_r h
    exact inR_r (fun b => !b) q s o1 o2 k
/-! ### where an item stands -/
def findD (ds : List PyData) (d : PyData) : Option Nat := ds.findIdx? fun z => PyData.eqv z d
def idxR (a b : Rs) : Option Rs := match asL a, b with
  | some ds, .da d => if SeqAt.shaped d && SeqAt.shaped (.list ds) then (findD ds d).map fun j => .da (.int (j : Nat)) else none
  | _, _ => none
def idxC (sa : FE) (sd : FD) : FE := fun ρ => match okk (sa ρ), okk (sd ρ) with
  | some r, some d => (idxR r (.da d)).map .ok
  | _, _ => none
theorem sv_index {k : Nat} (hr : Room k X.A) (ho : SA X W o sa) (hd : SD X W e sd) (hbase : attributeBase o "index" X.env (eval o X.env) = eval o X.env := by rfl)
    (hfew : ((backTo cpos (starEach (e :: []) X.env)).all (fun x => !x.1) && (backToKw cpos (keywordEach [] X.env)).all (fun x => x.1.isSome)
        && decide ((e :: ([] : List Expr)).length + ([] : List Keyword).length + (if ([] : List Keyword).isEmpty then 0 else 1) < 30)) = true := by rfl)
    (hline : (apos.endLine == cpos.line) = true := by rfl) (hs : starEach (e :: []) X.env = (false, eval e X.env) :: starEach [] X.env := by rfl) (hplain : (backTo cpos (starEach [] X.env)).any (·.1) = false := by rfl) :
    SV X W (.Call (.Attribute o "index" apos) [e] [] cpos) (idxC sa sd) := by
  refine ⟨fun ρ x z => ?_, fun ρ cc z => ?_⟩ <;> unfold idxC at z <;> split at z
  · rename_i r d q1 q2
    obtain ⟨y, q, z⟩ := map_some z
    cases z
    unfold idxR at q
    split at q
    · rename_i ds d' q3 ed
      cases ed
      split at q
      · rename_i hsh
        obtain ⟨s1, s2⟩ := Bool.and_eq_true_iff.mp hsh
        obtain ⟨j, q4, q⟩ := map_some q
        cases q
        refine pe_imp (pe_bm PySem.F.plainAttrs_list PySem.F.slot_list_index PySem.F.type_list_index (mt_indexD (units65 hr)) (ho.ok _ _ (okk_some q1)) (pa_cons (hd.ok _ _ (okk_some q2)) pa_nil hs) hbase hfew hline hs hplain) fun σ H Q ⟨Hs, av, env, k⟩ => ⟨Hs, av, env, fun v Hs1 H1 fp e1 o1 n1 => ?_⟩
        obtain ⟨l, vs, rfl, g1, d1⟩ := asL_own e1.sub o1 q3
        refine ⟨.inl ⟨rfl, vs, SqL.of g1⟩, tq_data (envQ_ext e1 env) fun w Hs2 H2 e2 dw => ?_⟩
        obtain ⟨hj, hp, hn⟩ := List.findIdx?_eq_some_iff_getElem.mp q4
        refine ⟨l, w, d, ds, j, ds[j], rfl, rfl, dp_l2 (.lst (e2.all _ _ g1) (dpAll_mono (e2.data.trans e2.sub) d1)), dp_l2 (dp_mono e2.sub dw), s2, s1, List.getElem?_eq_getElem hj, hp, fun m z hm hz => ?_, kdata k (e1.trans e2) (.int _)⟩
        obtain ⟨hm', rfl⟩ := List.getElem?_eq_some_iff.mp hz
        have := hn m hm
        simpa using this
      · cases q
    · cases q
  · cases z
  · obtain ⟨y, q, z⟩ := map_some z
    cases z
  · cases z
end
end Cg

/-! join, max, membership in a tuple of numbers. -/
namespace Cg
open PySem L2
section
variable {X : Cx} {mk : List Bool} {W : WX} {e a b c o : Expr} {es : List Expr} {pos pp p2 apos cpos : Pos} {sa sb : FE} {sd sd' : FD} {t : En → Option Bool} {i : Nat} {ρ : En}
def strsD : List PyData → Option (List Str)
  | [] => some []
  | .str z :: ds => (strsD ds).map (z :: ·)
  | _ :: _ => none
theorem strsD_dp {K : PySem.W.Frag} {H : Hp} : ∀ {vs : List V} {ds : List PyData} {zs : List Str}, DpAll K H vs ds → strsD ds = some zs → vs = zs.map V.str
  | _, _, _, .nil, h => by cases h; rfl
  | _, _, _, .cons d t, h => by
    unfold strsD at h
    split at h
    · rename_i e1
      cases e1
    · rename_i z ds e1
      cases e1
      obtain ⟨zs, q, rfl⟩ := map_some h
      rw [dp_str d, strsD_dp t q]; rfl
    · cases h
def joinR (a b : Rs) : Option Rs := match a, asL b with
  | .da (.str z), some ds => (match strsD ds with
    | some ys => if (ys.map (·.length)).sum + ys.length * z.length ≤ 16777216 then some (.da (.str (Txt.join z ys))) else none
    | none => none)
  | _, _ => none
def joinC (sd : FD) (sa : FE) : FE := fun ρ => match okk (sd ρ), okk (sa ρ) with
  | some d, some r => (joinR (.da d) r).map .ok
  | _, _ => none
theorem sv_join (ho : SD X W o sd) (ha : SA X W e sa) (hs : starEach [e] X.env = [(false, eval e X.env)] := by rfl) (hbase : attributeBase o "join" X.env (eval o X.env) = eval o X.env := by rfl) (hline : (apos.endLine == pos.line) = true := by rfl) :
    SV X W (.Call (.Attribute o "join" apos) [e] [] pos) (joinC sd sa) := by
  refine ⟨fun ρ x z => ?_, fun ρ cc z => ?_⟩ <;> unfold joinC at z <;> split at z
  · rename_i d r q1 q2
    obtain ⟨y, q, z⟩ := map_some z
    cases z
    unfold joinR at q
    split at q
    · rename_i zz ds ez q3
      cases ez
      split at q
      · rename_i ys q4
        split at q
        · rename_i hz
          cases q
          refine pe_imp (pe_join (ho.ok _ _ (okk_some q1)) (ha.ok _ _ (okk_some q2)) hs hbase hline) fun σ H Q ⟨Hs, av, env, k⟩ => tq_data env fun v Hs1 H1 e1 dv => ?_
          have ev := dp_str dv
          subst ev
          refine ⟨⟨_, rfl⟩, Hs1, av, envQ_ext e1 env, fun w Hs2 H2 fp e2 o2 _ => ?_⟩
          obtain ⟨l, vs, rfl, g1, d1⟩ := asL_own e2.sub o2 q3
          have e := strsD_dp d1 q4
          subst e
          exact ⟨_, l, ys, rfl, rfl, .inl (SqL.of g1), hz, kdata k (e1.trans e2) (.str _)⟩
        · cases q
      · cases q
    · cases q
  · cases z
  · obtain ⟨y, q, z⟩ := map_some z
    cases z
  · cases z
def maxC (sd sd' : FD) : FE := fun ρ => match okk (sd ρ), okk (sd' ρ) with
  | some (.int i), some (.int j) => some (.ok (.da (.int (if j > i then j else i))))
  | _, _ => none
theorem sv_max (hc : X.calm = true) (hm : X.mg "max" = none) (ha : SD X W a sd) (hb : SD X W b sd') (hg : Gl X "max" := by rfl) (he : starEach (a :: [b]) X.env = (false, eval a X.env) :: starEach [b] X.env := by rfl) (he2 : starEach (b :: []) X.env = (false, eval b X.env) :: starEach [] X.env := by rfl) (hpl : (backTo pos (starEach [b] X.env)).any (·.1) = false := by rfl) :
    SV X W (.Call (.Name "max" pp) [a, b] [] pos) (maxC sd sd') := by
  refine ⟨fun ρ x z => ?_, fun ρ cc z => ?_⟩ <;> unfold maxC at z <;> split at z
  · rename_i i j q1 q2
    cases z
    refine pe_imp (pe_callB (call_max2 hc) hg hm (by decide +kernel) (qs_cons (ha.ok _ _ (okk_some q1)) (qs_cons (hb.ok _ _ (okk_some q2)) qs_nil he2) he) (by decide) (by decide) he hpl) fun σ H Q ⟨Hs, av, env, k⟩ => ⟨Hs, av, env, fun vs Hs1 H1 e1 dv => ?_⟩
    obtain ⟨v, w, rfl, q3, q4⟩ := dpAll_2 dv
    rw [dp_int q3, dp_int q4]
    exact ⟨i, j, rfl, kdata k e1 (.int _)⟩
  · cases z
  · cases z
  · cases z
/-! ### i in (1, 2, 3) -/
def intsD : List PyData → Option (List Int)
  | [] => some []
  | .int z :: ds => (intsD ds).map (z :: ·)
  | _ :: _ => none
theorem intsD_dp {K : PySem.W.Frag} {H : Hp} : ∀ {vs : List V} {ds : List PyData} {zs : List Int}, DpAll K H vs ds → intsD ds = some zs → vs = zs.map V.int
  | _, _, _, .nil, h => by cases h; rfl
  | _, _, _, .cons d t, h => by
    unfold intsD at h
    split at h
    · rename_i e1
      cases e1
    · rename_i z ds e1
      cases e1
      obtain ⟨zs, q, rfl⟩ := map_some h
      rw [dp_int d, intsD_dp t q]; rfl
    · cases h
theorem inV_ints (i : Int) : ∀ ns : List Int, inV (.int i) (ns.map V.int) = decide (i ∈ ns)
  | [] => by simp [inV]
  | n :: ns => by
    have := inV_ints i ns
    unfold inV at this ⊢
    rw [List.map_cons, List.any_cons, this]
    show ((n == i) || _) = _
    by_cases h : n = i
    · subst h; simp
    · have h2 : ¬ i = n := fun e => h e.symm
      simp [h, h2]
theorem flat_ints : ∀ ns : List Int, (ns.map V.int).all flatV = true
  | [] => rfl
  | n :: ns => flat_ints ns
def inTR (a b : Rs) : Option Bool := match a, b with
  | .da (.int i), .da (.tuple ds) => (intsD ds).map fun ns => decide (i ∈ ns)
  | _, _ => none
theorem inTR_r {r1 r2 : Rs} {t : Bool} {v w : V} {Hs H : Hp} {Q : VK} {fp fq : List Addr} (h : inTR r1 r2 = some t) (s : Same Hs H) (o1 : Own X.K .rdo Hs H v r1 fp) (o2 : Own X.K .rdo Hs H w r2 fq) (k : Q (.bl t) H) : rIn X.K false v w H Q := by
  unfold inTR at h
  split at h
  · obtain ⟨ns, q, rfl⟩ := map_some h
    obtain ⟨p, xs, rfl, q1, rr⟩ := dp_tup (own_dp o2)
    rw [dp_int (own_dp o1)]
    have e := intsD_dp rr q
    subst e
    refine ⟨p, _, rfl, .inr (SqT.of (s _ _ q1)), rfl, flat_ints ns, ?_⟩
    rw [if_neg (by decide), inV_ints]
    exact k
  · cases h
theorem st_inT (ha : SA X W a sa) (hb : SA X W b sb) (hm : behindInMarks .In b = false := by with_unfolding_all rfl) : ST X (.Compare a [.In] [b] pos) (cm2 inTR sa sb) :=
  st_cmp op_in_seq ha hb hm fun _ _ _ v w Hs H Q fp fq h s o1 o2 k => inTR_r h s o1 o2 k
theorem sv_inT (ha : SA X W a sa) (hb : SA X W b sb) (hm : behindInMarks .In b = false := by with_unfolding_all rfl) : SV X W (.Compare a [.In] [b] pos) (bV (cm2 inTR sa sb)) :=
  sv_cmp op_in_seq ha hb hm fun _ _ _ v w Hs H Q fp fq h s o1 o2 k => inTR_r h s o1 o2 k
end
end Cg

/-! A loop over a name's list: data from there on. -/
namespace Cg
open PySem L2
section
variable {X : Cx} {mk : List Bool} {W : WX} {iter : Expr} {body : List Stmt} {pos pp : Pos} {sb : FS} {ρ : En}
def forV (i j : Nat) (b : FS) : FS := fun ρ => match ρ[j]? with
  | some (.ow (.lst ds)) => forL i b ds (put ρ j (.ow (.da (.list ds))))
  | _ => forD i (dtA (varC j)) b ρ
theorem put_un (ρ : En) (j : Nat) (s : Sv) : put (ρ.set j .un) j s = put ρ j s := by
  unfold put
  rw [dropA_map, dropA_map]
  apply List.ext_getElem?
  intro k
  by_cases hk : j = k
  · subst hk
    by_cases hl : j < ρ.length
    · rw [List.getElem?_set_self (by simpa using hl), List.getElem?_set_self (by simpa using hl)]
    · rw [List.getElem?_eq_none (by simp; omega), List.getElem?_eq_none (by simp; omega)]
  · rw [List.getElem?_set_ne hk, List.getElem?_set_ne hk, List.getElem?_map, List.getElem?_map, List.getElem?_set_ne hk]
theorem set_sameV {σ : St} {j : Nat} {v : V} (h : σ[j]? = some (some v)) : σ.set j (some v) = σ := by
  apply List.ext_getElem?
  intro k
  by_cases hk : j = k
  · subst hk
    rw [List.getElem?_set_self (List.getElem?_eq_some_iff.mp h).1, h]
  · rw [List.getElem?_set_ne hk]
theorem ss_forV {i j : Nat} {n : Str} (hp : PassesOwn (model X.prog X.w) X.A X.env X.xe) (hc : X.calm = true) (hN : X.N.Nodup) (hi : X.N[i]? = some n) (hx : Loc X.env.scope n) (he : PE X iter (tVar j)) (hb : SSs X mk W body sb) (hm : mk[i]? ≠ some true := by decide) (hmj : mk[j]? ≠ some true := by decide)
    (hs : ∀ x, foldedSetIterable iter X.env x = pure x := by intro _; rfl) (hf : X.fn n = true ∨ X.env.scope.names.lookup n = some .local := by first | exact .inl rfl | exact .inr rfl | assumption) :
    SS X mk W (.For (.Name n pp) iter body [] pos) (forV i j sb) := fun ρ o z => by
  unfold forV at z
  split at z
  · rename_i ds q
    refine ps_imp (ps_for hp hc (pi_list he) (pg_name hN hi hx hf) (pss_some (rest := body) (mk := mk) (W := W)) hs) fun D σ H ⟨g, Hs, env, k⟩ => ?_
    obtain ⟨v, hv, e1⟩ := env_mv env q
    obtain ⟨Hs2, s2, e2⟩ := env_freeze e1
    have hl : j < (ρ.set j .un).length := by
      rw [List.length_set]
      exact (List.getElem?_eq_some_iff.mp q).1
    have e3 := env_set e2 hl hmj
    rw [put_un, set_sameV hv] at e3
    obtain ⟨fp, ow⟩ := own_any e2
    obtain ⟨a, vs, rfl, q1, r⟩ := dp_lst (own_dp ow)
    have sub := env_sub e3
    refine ⟨.ref a, hv, a, rfl, ⟨vs, SqL.of (sub _ _ q1)⟩, for_run (K := X.K) hb hm (fun Hs3 H3 σ3 ρ3 s3 e4 => ⟨fun m d hj => ?_, fun m hj => ?_⟩) z e3 (tPost_later s2 k)⟩
    · obtain ⟨v, hv, dv⟩ := dpAll_get r hj
      have hq : H3 a = some (.lst vs) := env_sub e4 _ _ (s3 _ _ q1)
      refine ⟨⟨vs, v, SqL.of hq, hv⟩, fun x H4 y => ⟨y.1, ?_⟩⟩
      have := y.2 vs (SqL.of hq)
      rw [hv] at this; cases this
      exact dp_mono s3 dv
    · exact ⟨vs, SqL.of (env_sub e4 _ _ (s3 _ _ q1)), by rw [dpAll_length r]; exact hj⟩
  · exact ss_forD (sd := dtA (varC j)) hp hc hN hi hx (sd_a (sa_var he)) hb hm hs hf ρ o z
end
end Cg

/-! Dicts with tuples as keys: put, pop. -/
namespace Cg
open PySem L2
section
open PySem.W PySem.Calls PyProof.Rows PyProof.V PySem.Spec DT
/-- d.pop(b) of a tuple key that is there -/
theorem meets_pop1 {κ : Type} [DecidableEq κ] {pg : Program} {w : World} {kn : HeapKind pg w κ} {d b : Addr} {k : κ} (hd : (d == sysModules) = false) :
    MeetsIn pg w (Builtin.«dict.pop» ⟨[.ref d, .ref b], []⟩) (fun A R s => ∃ xs p, kn.room A.in1 ∧ kn.is s.heap k b ∧ s.heap.DictOfH kn d xs ∧ xs.length ≤ sizeLine ∧ atKey xs k = some p ∧
      ∀ h' tk, h'.DictOfH kn d (dropH xs k) → Heap.SameBut d s.heap h' → R (.ok (.ret p.2)) { s with heap := h', toks := tk }) :=
  .of_wp fun A R s ⟨xs, p, hu, hkey, hm, hsz, hat, kk⟩ => by
    obtain ⟨o, es, ep, ho, hc, hdat, he, his, hn⟩ := _root_.id hm
    have len : es.size = xs.length := size_of_entries he
    have np : (keyPart (Value.ref b)).isSome = false := rfl
    unfold Builtin.«dict.pop» Builtin.Dict.keyAndDefault
    refine wpAny_bind (wpAny_bind (wpAny_notOrdered_dict hm.typeIs ?_))
    show wpAny _ _ (pure (d, Value.ref b, (none : Option Value))) _ _ s
    refine wpAny_pure ?_
    simp only [np, Bool.false_eq_true, if_false]
    refine wpAny_bind (wpAny_dictEntries ho hdat ?_)
    refine wpAny_bind (wpAny_pure ?_)
    have ne : es.isEmpty = false := by
      cases q : es.isEmpty with
      | false => rfl
      | true =>
        have z0 : es.size = 0 := by simpa using q
        have : xs = [] := List.length_eq_zero_iff.mp (by omega)
        subst this
        cases hat
    rw [ne]
    simp only [Bool.false_eq_true, if_false]
    refine wpAny_bind (takeH hu hkey hm hsz (fun no => ?_) fun p' e hp hev h' hm' hs' => ?_)
    · rw [no] at hat; cases hat
    · rw [hp] at hat
      cases hat
      simp only [Option.isNone_some, Bool.false_eq_true, if_false]
      refine wpAny_bind (wpAny_letGo (wpAny_pure ⟨e.val, rfl, ?_⟩))
      rw [hev]
      exact kk h' _ hm' hs'
end
section
variable {X : Cx} {mk : List Bool} {W : WX} {e a b c o ix : Expr} {es : List Expr} {pos pp p2 apos cpos tpos : Pos} {sa sb : FE} {sd sd' sv : FD} {sp : FP} {ρ : En}
def rPop1 : V → List V → Hp → VK → Prop := fun x xs H Q => ∃ (a : Addr) (kvs : List (List L2.Key × V)) (k : List L2.Key) (b : Addr) (v : V), x = .ref a ∧ xs = [.ref b] ∧ H a = some (.dT kvs) ∧ H b = some (.tup (k.map kV)) ∧ valV kvs k = some v ∧ Q v (upd H a (.dT (dropK kvs k)))
open L2.DX in
theorem mt_pop1 (hu : X.A.units + 1 < cLine) : MtR X "dict.pop" rPop1 := by
  intro pins s σ H x xs v us Q I rx rxs h
  obtain ⟨d, kvs, k, b, w, rfl, rfl, hd0, hb, hw, q⟩ := h
  cases rx
  obtain ⟨u1, rfl, r1⟩ := vals1 rxs
  cases r1
  obtain ⟨len, hd, ys, rel, dd⟩ := dt_of I.hok hd0
  have len2 : ys.length ≤ sizeLine := by rw [← Paired.length rel]; exact len
  have r := rel.val k
  rw [hw] at r
  cases hp : PySem.atKey ys k with
  | none => rw [hp] at r; exact (show False from r).elim
  | some p =>
    rw [hp] at r
    refine call_meetsIn PySem.F.slot_dict_pop dd.typeIs PySem.F.entry_dict_pop (PySem.F.args_dict_pop_2 _ _) (meets_pop1 (kn := tupleKind (mixKind X.prog X.w)) (k := k) hd)
      ⟨ys, p, tupleKind_room_in1 hu, key_of I.hok hb, dd, len2, hp, fun h' tk dd' hs => ?_⟩
    obtain ⟨o, es, ep, hq, h2, h3, h4, _, h5⟩ := dd'
    have J : Inv X pins σ (upd H d (.dT (dropK kvs k))) { s with heap := h', toks := tk } := d_write I (by rw [hd0]; exact True.intro) hs ⟨o, hq⟩
      ⟨Nat.le_trans (dropK_le kvs k) len, hd, _, (KT_drop k rel).keeps (fun c zs ec => (by
        rw [upd_ne (ne_of ec hd0 (fun z => nomatch z))]; exact ec)), o, es, ep, hq, h2, h3, h4, h5⟩
    exact ⟨w, _, J, r, q⟩
/-! ### one such dict of one's own is written -/
def setT (k : List Key) (y : PyData) (kvs : List (List Key × PyData)) : List (List Key × PyData) := if (kvs.any fun kv => decide (kv.1 = k)) = true then kvs.map (fun kv => if kv.1 = k then (kv.1, y) else kv) else kvs ++ [(k, y)]
def dropT (k : List Key) (kvs : List (List Key × PyData)) : List (List Key × PyData) := kvs.filter fun kv => decide (kv.1 ≠ k)
def DtR (K : PySem.W.Frag) (H : Hp) (kvv : List (List Key × V)) (kvs : List (List Key × PyData)) : Prop := kvv.map (·.1) = kvs.map (·.1) ∧ DpAll K H (kvv.map (·.2)) (kvs.map (·.2))
section
variable {K : PySem.W.Frag} {Hs : Hp} {k : List Key}
theorem dtr_cons {k1 k2 : List Key} {v : V} {d : PyData} {kvv : List (List Key × V)} {kvs : List (List Key × PyData)} (h : DtR K Hs ((k1, v) :: kvv) ((k2, d) :: kvs)) : k1 = k2 ∧ Dp K Hs v d ∧ DtR K Hs kvv kvs := by
  obtain ⟨h1, h2⟩ := h
  simp only [List.map_cons, List.cons.injEq] at h1
  cases h2 with
  | cons a b => exact ⟨h1.1, a, h1.2, b⟩
theorem dtr_mk {k1 : List Key} {v : V} {d : PyData} {kvv : List (List Key × V)} {kvs : List (List Key × PyData)} (h1 : Dp K Hs v d) (h : DtR K Hs kvv kvs) : DtR K Hs ((k1, v) :: kvv) ((k1, d) :: kvs) := ⟨by simp [h.1], .cons h1 h.2⟩
theorem dtr_drop : ∀ {kvv : List (List Key × V)} {kvs : List (List Key × PyData)}, DtR K Hs kvv kvs → DtR K Hs (dropK kvv k) (dropT k kvs)
  | [], [], _ => ⟨rfl, .nil⟩
  | [], _ :: _, h => by have := h.1; simp at this
  | _ :: _, [], h => by have := h.1; simp at this
  | (k1, v) :: kvv, (k2, d) :: kvs, h => by
    obtain ⟨rfl, hv, ht⟩ := dtr_cons h
    have ih := dtr_drop ht
    unfold dropK dropT at ih ⊢
    by_cases hk : k1 = k
    · rw [List.filter_cons_of_neg (by simp [hk]), List.filter_cons_of_neg (by simp [hk])]; exact ih
    · rw [List.filter_cons_of_pos (by simp [hk]), List.filter_cons_of_pos (by simp [hk])]; exact dtr_mk hv ih
theorem dtr_any : ∀ {kvv : List (List Key × V)} {kvs : List (List Key × PyData)}, DtR K Hs kvv kvs → (kvv.any fun kv => decide (kv.1 = k)) = kvs.any fun kv => decide (kv.1 = k)
  | [], [], _ => rfl
  | [], _ :: _, h => by have := h.1; simp at this
  | _ :: _, [], h => by have := h.1; simp at this
  | (k1, v) :: kvv, (k2, d) :: kvs, h => by
    obtain ⟨rfl, hv, ht⟩ := dtr_cons h
    rw [List.any_cons, List.any_cons, dtr_any ht]
theorem dtr_map {v : V} {y : PyData} (hv : Dp K Hs v y) : ∀ {kvv : List (List Key × V)} {kvs : List (List Key × PyData)}, DtR K Hs kvv kvs → DtR K Hs (kvv.map fun kv => if kv.1 = k then (kv.1, v) else kv) (kvs.map fun kv => if kv.1 = k then (kv.1, y) else kv)
  | [], [], _ => ⟨rfl, .nil⟩
  | [], _ :: _, h => by have := h.1; simp at this
  | _ :: _, [], h => by have := h.1; simp at this
  | (k1, v1) :: kvv, (k2, d) :: kvs, h => by
    obtain ⟨rfl, h1, ht⟩ := dtr_cons h
    have ih := dtr_map hv ht
    by_cases hk : k1 = k
    · simp only [List.map_cons, if_pos hk]; exact dtr_mk hv ih
    · simp only [List.map_cons, if_neg hk]; exact dtr_mk h1 ih
theorem dtr_app {v : V} {y : PyData} (hv : Dp K Hs v y) : ∀ {kvv : List (List Key × V)} {kvs : List (List Key × PyData)}, DtR K Hs kvv kvs → DtR K Hs (kvv ++ [(k, v)]) (kvs ++ [(k, y)])
  | [], [], _ => dtr_mk hv ⟨rfl, .nil⟩
  | [], _ :: _, h => by have := h.1; simp at this
  | _ :: _, [], h => by have := h.1; simp at this
  | (k1, v1) :: kvv, (k2, d) :: kvs, h => by
    obtain ⟨rfl, h1, ht⟩ := dtr_cons h
    exact dtr_mk h1 (dtr_app hv ht)
theorem dtr_put {v : V} {y : PyData} {kvv : List (List Key × V)} {kvs : List (List Key × PyData)} (hv : Dp K Hs v y) (h : DtR K Hs kvv kvs) : DtR K Hs (putK kvv k v) (setT k y kvs) := by
  unfold putK setT
  rw [dtr_any h]
  split
  · exact dtr_map hv h
  · exact dtr_app hv h
theorem dtr_len {kvv : List (List Key × V)} {kvs : List (List Key × PyData)} (h : DtR K Hs kvv kvs) : kvv.length = kvs.length := by
  have := congrArg List.length h.1
  simpa using this
theorem st_dtop {H : Hp} {a : Addr} {kvv kvv' : List (List Key × V)} {kvs' : List (List Key × PyData)} {vs : Nat → Option V} {tk : List Lk} (s : Same Hs H) (nd : NoD Hs) (ha : Hs a = none) (e : H a = some (.dT kvv)) (d : DtR K Hs kvv' kvs') : St9 K ⟨Hs, H, (· ∈ [a]), vs, tk, []⟩ Hs (upd H a (.dT kvv')) [(.ref a, .dtt kvs')] := by
  refine ⟨fun b u z => ?_, nd, ⟨[a] ++ [], .cons (.dtt upd_same d.1 d.2) .nil, by simp, fun b m => ?_⟩, .refl _, fun _ _ z => .inl z, fun b u z w _ => ?_, fun p hp => absurd hp (by simp)⟩
  · have : b ≠ a := fun q => by subst q; rw [ha] at z; cases z
    rw [upd_ne this]; exact s b u z
  · have z : b = a := by simpa using m
    subst z; exact ⟨ha, .inr (by simp)⟩
  · have : b ≠ a := fun q => w (by simp [q])
    rw [upd_ne this]; exact z
theorem env_dtt {g : Gh} {H : Hp} {T : List VR} {σ : St} {ρ : En} {p : Nat × List Pe} {kvs : List (List Key × PyData)} {v u : V} (env : EnvAt K mk g Hs H T σ ρ) (hx : atP ρ p = some (.dtt kvs)) (hv : σ[p.1]? = some (some v)) (w : Way H v p.2 u) :
    ∃ a kvv, u = .ref a ∧ H a = some (.dT kvv) ∧ DtR K Hs kvv kvs ∧ ∀ kvv' kvs', DtR K Hs kvv' kvs' → EnvAt K mk g Hs (upd H a (.dT kvv')) T σ (upS ρ p.1 p.2 (.dtt kvs')) := by
  obtain ⟨r, h1, h2⟩ := atP_some hx
  obtain ⟨v', u', hv', w', e1, close⟩ := env_part env h1 h2
  rw [hv] at hv'; cases hv'
  have := way_inj w w'
  subst this
  obtain ⟨fpP, oP, nP, fP, q, run⟩ := env_run (P := [(u, .dtt kvs)]) e1
  have sub := q.sub
  have nod := q.nod
  cases oP with
  | cons o t =>
    cases t
    cases o with
    | dtt ha d1 d2 =>
      rename_i a kvv
      refine ⟨a, kvv, rfl, ha, ⟨d1, d2⟩, fun kvv' kvs' d' => ?_⟩
      obtain ⟨e2, ways⟩ := run (fun _ => none) Hs (upd H a (.dT kvv')) _ g.tk (fun _ _ z => z) (st_dtop sub nod (fP a (by simp)) ha d')
      have hl := (List.getElem?_eq_some_iff.mp h1).1
      have hc : (clA (ρ.set p.1 (.ow (setP r p.2 .un))))[p.1]? = some (.ow (setP r p.2 .un)) := by rw [clA_get, List.getElem?_set_self hl]; rfl
      exact close Hs _ (.dtt kvs') T (.refl _) (ways p.1 v _ p.2 _ .un hv hc (getP_setP h2).1 w) e2
end
/-- d[a, b] = e -/
def dputT (sp : FP) (sd sv : FD) : FS := fun ρ => match okk (sv ρ), sp ρ, okk (sd ρ) with
  | some y, some p, some (.tuple ds) => (match atP ρ p, keysD ds with
    | some (.dtt kvs), some k => if kvs.length < sizeLine then some (.nx (upS ρ p.1 p.2 (.dtt (setT k y kvs)))) else none
    | _, _ => none)
  | _, _, _ => none
theorem ss_dputT {k : Nat} (hr : Room k X.A) (ho : SP X o sp) (hd : SD X W ix sd) (he : SD X W e sv) (hs : swapsWith e (some (.Subscript o ix tpos)) pos.line X.env = pure false := by rfl) : SS X mk W (.Assign [.Subscript o ix tpos] e pos) (dputT sp sd sv) := fun ρ ou z => by
  unfold dputT at z
  split at z
  · rename_i y p ds q1 q2 q3
    split at z
    · rename_i kvs kk q4 q5
      split at z
      · rename_i hz
        cases z
        refine ps_imp (ps_dput (hu_of hr) (ho _ _ q2).2 (hd.ok _ _ (okk_some q3)) (he.ok _ _ (okk_some q1)) hs) fun D σ H ⟨g, Hs, env, k⟩ => tq_data (env_q env) fun v Hs1 H1 e1 dv => ⟨Hs1, _, env_q (env_ext e1 env), fun v0 u Hs2 H2 hv e2 wy => tq_data (env_q (env_ext e2 (env_ext e1 env))) fun wk Hs3 H3 e3 dk => ?_⟩
        obtain ⟨a, kvv, rfl, g1, g2, close⟩ := env_dtt (env_ext e3 (env_ext e2 (env_ext e1 env))) q4 hv (way_mono e3.all wy)
        obtain ⟨b, xs, rfl, h1, h2⟩ := dp_tup dk
        have ek := keysD_dp h2 q5
        subst ek
        exact ⟨a, _, rfl, .inr ⟨kvv, kk, b, g1, rfl, e3.sub _ _ h1, by rw [dtr_len g2]; exact hz, rfl⟩, k σ Hs3 _ (e1.data.trans (e2.data.trans e3.data)) (close _ _ (dtr_put (dp_mono (e2.data.trans e3.data) dv) g2))⟩
      · cases z
    · cases z
  · cases z
/-- d.pop((a, b)) -/
def dpopT (sp : FP) (sd : FD) : En → Option Oe := fun ρ => match sp ρ, okk (sd ρ) with
  | some p, some (.tuple ds) => (match atP ρ p, keysD ds with
    | some (.dtt kvs), some k => (match valT k kvs with
      | some y => some (.ok (.da y) (upS ρ p.1 p.2 (.dtt (dropT k kvs))))
      | none => none)
    | _, _ => none)
  | _, _ => none
theorem se_dpopT {k : Nat} (hr : Room k X.A) (ho : SP X o sp) (hd : SD X W e sd) (hbase : attributeBase o "pop" X.env (eval o X.env) = eval o X.env := by rfl)
    (hfew : ((backTo cpos (starEach (e :: []) X.env)).all (fun x => !x.1) && (backToKw cpos (keywordEach [] X.env)).all (fun x => x.1.isSome)
        && decide ((e :: ([] : List Expr)).length + ([] : List Keyword).length + (if ([] : List Keyword).isEmpty then 0 else 1) < 30)) = true := by rfl)
    (hline : (apos.endLine == cpos.line) = true := by rfl) (hs : starEach (e :: []) X.env = (false, eval e X.env) :: starEach [] X.env := by rfl) (hplain : (backTo cpos (starEach [] X.env)).any (·.1) = false := by rfl) :
    SE X mk W (.Call (.Attribute o "pop" apos) [e] [] cpos) (dpopT sp sd) := by
  refine ⟨fun ρ x ρ1 z => ?_, fun ρ cc ρ1 z => ?_⟩ <;> unfold dpopT at z <;> split at z
  · rename_i p ds q1 q2
    split at z
    · rename_i kvs kk q3 q4
      split at z
      · rename_i y q5
        cases z
        refine pe_imp (pe_bm PySem.F.plainAttrs_dict PySem.F.slot_dict_pop PySem.F.type_dict_pop (mt_pop1 (hu_of hr)) (ho _ _ q1).2 (pa_cons (hd.ok _ _ (okk_some q2)) pa_nil hs) hbase hfew hline hs hplain) fun σ H Q ⟨g, Hs, T, env, k⟩ => ⟨Hs, _, env_q env, fun v u Hs1 H1 hv e1 w => ?_⟩
        obtain ⟨a, kvv, rfl, g1, g2, _⟩ := env_dtt (env_ext e1 env) q3 hv w
        refine ⟨?_, tq_data (env_q (env_ext e1 env)) fun wk Hs2 H2 e2 dk => ?_⟩
        · exact .inr (.inr (.inl ⟨rfl, .inr ⟨kvv, g1⟩⟩))
        · obtain ⟨a', kvv', ea, g1', g2', close⟩ := env_dtt (env_ext e2 (env_ext e1 env)) q3 hv (way_mono e2.all w)
          cases ea
          obtain ⟨b, xs, rfl, h1, h2⟩ := dp_tup dk
          have ek := keysD_dp h2 q4
          subst ek
          obtain ⟨i1, i2⟩ := valT_v (k := kk) g2'.1 g2'.2
          obtain ⟨u, hu, du⟩ := i1 y q5
          exact ⟨a, kvv', kk, b, u, rfl, rfl, g1', e2.sub _ _ h1, hu, k u Hs2 _ (e1.data.trans e2.data) (env_push (close _ _ (dtr_drop g2')) du)⟩
      · cases z
    · cases z
  · cases z
  · split at z
    · split at z <;> cases z
    · cases z
  · cases z
end
end Cg

/-! Loops over lists that are only read. -/
namespace Cg
open PySem L2
/-- the part at a place that is only read -/
def atB (ρ : En) (p : Nat × List Pe) : Option Rs := match ρ[p.1]? with
  | some (.bo r) => getP r p.2
  | _ => none
theorem atB_some {ρ : En} {p : Nat × List Pe} {x : Rs} (h : atB ρ p = some x) : ∃ r, ρ[p.1]? = some (.bo r) ∧ getP r p.2 = some x := by
  unfold atB at h
  split at h
  · exact ⟨_, by assumption, h⟩
  · cases h
def SB (X : Cx) (e : Expr) (s : FP) : Prop := ∀ ρ p, s ρ = some p → (∃ x, atB ρ p = some x) ∧ PE X e (tPl X.K ρ p)
section
variable {X : Cx} {mk : List Bool} {W : WX} {a e iter : Expr} {body : List Stmt} {pos pp : Pos} {sb : FS} {sp : FP} {ρ : En}
def varB (i : Nat) : FP := fun ρ => match ρ[i]? with
  | some (.bo _) => some (i, [])
  | _ => none
theorem sb_var {i : Nat} (h : PE X e (tVar i)) : SB X e (varB i) := fun ρ p z => by
  unfold varB at z
  split at z
  · rename_i r q
    cases z
    refine ⟨⟨r, by simp [atB, q, getP]⟩, pe_imp h fun σ H Q ⟨Hs, av, env, k⟩ => ?_⟩
    obtain ⟨v, fp, a, o, _⟩ := envQ_tree env (show trOf ρ i = some r by unfold trOf; rw [q])
    exact ⟨v, a, k v v Hs H a (.refl env.sub) .nil⟩
  · cases z
theorem place_ownB {K : PySem.W.Frag} {Hs H : Hp} {av : Addr → Prop} {σ : St} {p : Nat × List Pe} {x : Rs} {v u : V} (env : EnvQ K Hs H av σ ρ) (hx : atB ρ p = some x) (hv : σ[p.1]? = some (some v)) (w : Way H v p.2 u) : ∃ fp, Own K .rdo Hs H u x fp := by
  obtain ⟨r, h1, h2⟩ := atB_some hx
  obtain ⟨v', fp, a, o, _⟩ := envQ_tree env (show trOf ρ p.1 = some r by unfold trOf; rw [h1])
  rw [hv] at a; cases a
  obtain ⟨u', fpx, _, w', ox, _⟩ := own_way o h2
  have := way_inj w w'
  subst this
  exact ⟨fpx, ox⟩
def attrB (cn f : Str) (sp : FP) : FP := fun ρ => match sp ρ with
  | some p => (match atB ρ p with
    | some (.ins c fs) => if c = cn ∧ (fs.lookup f).isSome then some (p.1, p.2 ++ [.f f]) else none
    | _ => none)
  | none => none
theorem sb_attr {cn f : Str} (cl : Cls X.K (He.ga X.K cn)) (na : NoAttr X.K (He.ga X.K cn) f) (h : SB X a sp) (hb : attributeBase a f X.env (eval a X.env) = eval a X.env := by rfl) : SB X (.Attribute a f pos) (attrB cn f sp) := fun ρ p z => by
  unfold attrB at z
  split at z
  · rename_i p0 q
    split at z
    · rename_i cc fs q1
      split at z
      · rename_i hc
        obtain ⟨rfl, hf⟩ := hc
        obtain ⟨y, hy⟩ := Option.isSome_iff_exists.mp hf
        cases z
        obtain ⟨r, h1, h2⟩ := atB_some q1
        refine ⟨⟨y, ?_⟩, pe_imp (pe_fld (h _ _ q).2 hb) fun σ H Q ⟨Hs, av, env, k⟩ => ⟨Hs, av, env, fun v u Hs1 H1 hv e1 w => ?_⟩⟩
        · show (match ρ[p0.1]? with
            | some (.bo r) => getP r (p0.2 ++ [.f f])
            | _ => none) = some y
          rw [h1]
          show getP r _ = _
          simp only [getP_app h2, getP, hy]
        · obtain ⟨fp, o⟩ := place_ownB (envQ_ext e1 env) q1 hv w
          cases o with
          | ins g1 g2 =>
            obtain ⟨u', fpx, fpc, l, o, pm, _⟩ := ownF_foc g2 hy
            exact ⟨_, _, _, _, _, rfl, g1, cl, na, l, k v u' Hs1 H1 hv e1 (way_app w (.f g1 l .nil))⟩
      · cases z
    · cases z
  · cases z
/-- for n in a list that is only read -/
def forB (i : Nat) (sp : FP) (b : FS) : FS := fun ρ => match sp ρ with
  | some p => (match atB ρ p with
    | some (.lst ds) => forL i b ds ρ
    | _ => none)
  | none => none
theorem ss_forB {i : Nat} {n : Str} (hp : PassesOwn (model X.prog X.w) X.A X.env X.xe) (hc : X.calm = true) (hN : X.N.Nodup) (hi : X.N[i]? = some n) (hx : Loc X.env.scope n) (he : SB X iter sp) (hb : SSs X mk W body sb) (hm : mk[i]? ≠ some true := by decide)
    (hs : ∀ x, foldedSetIterable iter X.env x = pure x := by intro _; rfl) (hf : X.fn n = true ∨ X.env.scope.names.lookup n = some .local := by first | exact .inl rfl | exact .inr rfl | assumption) :
    SS X mk W (.For (.Name n pp) iter body [] pos) (forB i sp sb) := fun ρ o z => by
  unfold forB at z
  split at z
  · rename_i p q
    split at z
    · rename_i ds q1
      refine ps_imp (ps_for hp hc (pi_list (he _ _ q).2) (pg_name hN hi hx hf) (pss_some (rest := body) (mk := mk) (W := W)) hs) fun D σ H ⟨g, Hs, env, k⟩ => ⟨Hs, _, env_q env, fun v u Hs1 H1 hv e1 w => ?_⟩
      have env1 := env_ext e1 env
      obtain ⟨r, h1, h2⟩ := atB_some q1
      obtain ⟨v', fp, hv', o0, nw⟩ := env1.bor p.1 r h1
      rw [hv] at hv'; cases hv'
      obtain ⟨⟨L, sl, h9⟩, _⟩ := _root_.id env1
      have o1 := bo_now h9 o0 nw
      obtain ⟨u', fpx, fpc, w', ox, pm, rst⟩ := own_way o1 h2
      clear rst
      have := way_inj w w'
      subst this
      cases ox with
      | lst g1 g2 =>
        rename_i l vs
        have hl : l ∈ fp := by simp [pm.mem_iff]
        obtain ⟨o2, hH0⟩ := own_there o0 l hl
        have kp : ∀ {Hs2 H2 : Hp} {M : List VR}, St9 X.K g Hs2 H2 M → H2 l = some (.lst vs) := fun {Hs2 H2 M} h => by
          have nl : l ∉ g.lk.map (·.1) := fun m => by
            obtain ⟨q, hq, e⟩ := List.mem_map.mp m
            obtain ⟨kv, _, _, z2⟩ := h9.keepL q hq
            rw [e, g1] at z2
            cases z2
          have a1 := h9.keep l o2 hH0 (nw l hl) nl
          rw [g1] at a1
          cases a1
          exact h.keep l _ hH0 (nw l hl) nl
        refine ⟨l, rfl, ⟨vs, SqL.of g1⟩, for_run (K := X.K) hb hm (fun Hs2 H2 σ2 ρ2 s2 e2 => ?_) z env1 (tPost_later e1.data k)⟩
        obtain ⟨⟨L2, _, h92⟩, _⟩ := e2
        have hq := kp h92
        refine ⟨fun j d hj => ?_, fun j hj => ⟨vs, SqL.of hq, by rw [dpAll_length g2]; exact hj⟩⟩
        obtain ⟨v2, hv2, dv⟩ := dpAll_get g2 hj
        refine ⟨⟨vs, v2, SqL.of hq, hv2⟩, fun x H3 y => ⟨y.1, ?_⟩⟩
        have := y.2 vs (SqL.of hq)
        rw [hv2] at this; cases this
        exact dp_mono s2 dv
    · cases z
  · cases z
end
end Cg

/-! a, b, .. = e: a tuple is taken apart. -/
namespace Cg
open PySem L2
section
variable {K : PySem.W.Frag} {mk : List Bool} {g : Gh} {Hs H : Hp} {T : List VR} {σ : St} {ρ : En} {v : V}
theorem ownS_L : ∀ {xs : List V} {rs : List Rs} {fp : List Addr}, OwnS K (.own []) Hs H xs rs fp → OwnL K (.own []) Hs H (xs.zip rs) fp ∧ xs.length = rs.length
  | _, _, _, .nil => ⟨.nil, rfl⟩
  | _, _, _, .cons h t => ⟨.cons h (ownS_L t).1, by simp [(ownS_L t).2]⟩
/-- the tuple is let go, its parts stay -/
theorem st_untup {rs : List Rs} {L : List VR} (h : St9 K g Hs H ((v, .tup rs) :: L)) : ∃ a xs, v = .ref a ∧ H a = some (.tup xs) ∧ xs.length = rs.length ∧ St9 K g Hs H (xs.zip rs ++ L) := by
  obtain ⟨fp, ow, n, f⟩ := h.own
  cases ow with
  | cons o t =>
    cases o with
    | tup h1 h2 =>
      rename_i fpL a xs fpS
      obtain ⟨oL, hl⟩ := ownS_L h2
      refine ⟨a, xs, rfl, h1, hl, ⟨h.sub, h.nod, ⟨_, ownL_app oL t, ?_, fun b m => ?_⟩, h.data, h.new, h.keep, h.keepL⟩⟩
      · simp at n
        exact n.2
      · exact f b (by simp at m ⊢; exact .inr m)
theorem env_untup {rs : List Rs} (e : EnvAt K mk g Hs H ((v, .tup rs) :: T) σ ρ) : ∃ a xs, v = .ref a ∧ H a = some (.tup xs) ∧ xs.length = rs.length ∧ EnvAt K mk g Hs H (xs.zip rs ++ T) σ ρ := by
  obtain ⟨⟨L, sl, h⟩, pk, bor, als⟩ := e
  obtain ⟨a, xs, rfl, h1, h2, h3⟩ := st_untup (st_front h)
  refine ⟨a, xs, rfl, h1, h2, ⟨L, sl, st_perm ?_ h3⟩, pk, bor, als⟩
  rw [← List.append_assoc, ← List.append_assoc]
  exact List.perm_append_comm.append_right T
end
theorem env_pushes {K : PySem.W.Frag} {mk : List Bool} {g : Gh} {Hs H : Hp} {T : List VR} {σ : St} {ρ : En} : ∀ {xs : List V} {ds : List PyData}, DpAll K Hs xs ds → EnvAt K mk g Hs H T σ ρ → EnvAt K mk g Hs H (xs.zip (ds.map .da) ++ T) σ ρ
  | _, _, .nil, e => e
  | _, _, .cons d t, e => env_push (env_pushes t e) d
/-- the parts of a tuple -/
def partsR : Rs → Option (List Rs)
  | .da (.tuple ds) => some (ds.map .da)
  | .tup rs => some rs
  | _ => none
theorem env_parts {K : PySem.W.Frag} {mk : List Bool} {g : Gh} {Hs H : Hp} {T : List VR} {σ : St} {ρ : En} {v : V} {x : Rs} {rs : List Rs} (e : EnvAt K mk g Hs H ((v, x) :: T) σ ρ) (hx : partsR x = some rs) : ∃ a xs, v = .ref a ∧ SqT K H a xs ∧ xs.length = rs.length ∧ EnvAt K mk g Hs H (xs.zip rs ++ T) σ ρ := by
  unfold partsR at hx
  split at hx
  · rename_i ds
    cases hx
    obtain ⟨fp, o⟩ := own_any e
    obtain ⟨a, xs, rfl, q1, r⟩ := dp_tup (own_dp o)
    have sub := env_sub e
    have e0 := env_pop e
    refine ⟨a, xs, rfl, SqT.of (sub _ _ q1), by rw [dpAll_length r]; simp, ?_⟩
    exact env_pushes r e0
  · cases hx
    obtain ⟨a, xs, rfl, h1, h2, h3⟩ := env_untup e
    exact ⟨a, xs, rfl, SqT.of h1, h2, h3⟩
  · cases hx
section
variable {X : Cx} {mk : List Bool} {W : WX} {e : Expr} {pos pt p1 p2 p3 p4 : Pos} {se : En → Option Oe} {kt : Nat}
def unpS2 (i j : Nat) (se : En → Option Oe) : FS := fun ρ => match se ρ with
  | some (.ok x ρ1) => (match partsR x with
    | some [a, b] => if i < ρ1.length ∧ j < ρ1.length then some (.nx (put (put ρ1 i (.ow a)) j (.ow b))) else none
    | _ => none)
  | some (.ex c ρ1) => some (.ex c ρ1)
  | none => none
theorem ss_unp2 {i j : Nat} {n m : Str} (hc : X.calm = true) (hN : X.N.Nodup) (hi : X.N[i]? = some n) (hj : X.N[j]? = some m) (hx : Loc X.env.scope n) (hy : Loc X.env.scope m) (he : SE X mk W e se) (hp1 : mk[i]? ≠ some true := by decide) (hp2 : mk[j]? ≠ some true := by decide)
    (hs : swapsWithSole [.Tuple [.Name n p1, .Name m p2] kt pt] e pos.line X.env = pure false := by rfl) (hw : swappedStores [.Tuple [.Name n p1, .Name m p2] kt pt] e X.env = pure none := by rfl)
    (h1 : (assignEach [.Tuple [.Name n p1, .Name m p2] kt pt] X.env).map (·.2) = [assign (.Tuple [.Name n p1, .Name m p2] kt pt) X.env] := by rfl)
    (hf1 : X.fn n = true ∨ X.env.scope.names.lookup n = some .local := by first | exact .inl rfl | exact .inr rfl | assumption) (hf2 : X.fn m = true ∨ X.env.scope.names.lookup m = some .local := by first | exact .inl rfl | exact .inr rfl | assumption)
    (hn : (assignEach [.Name n p1, .Name m p2] X.env).length = 2 := by rfl) (hst : (assignEach [.Name n p1, .Name m p2] X.env).findIdx? (·.1) = none := by rfl)
    (hs1 : (assignEach (.Name n p1 :: [.Name m p2]) X.env).map (·.2) = assign (.Name n p1) X.env :: (assignEach [.Name m p2] X.env).map (·.2) := by rfl) (hs2 : (assignEach (.Name m p2 :: []) X.env).map (·.2) = assign (.Name m p2) X.env :: (assignEach [] X.env).map (·.2) := by rfl) :
    SS X mk W (.Assign [.Tuple [.Name n p1, .Name m p2] kt pt] e pos) (unpS2 i j se) := fun ρ o z => by
  have hg : PG X (.Tuple [.Name n p1, .Name m p2] kt pt) _ := pg_tup (pos := pt) hc (pgs_cons (pg_name hN hi hx hf1) (pgs_cons (pg_name hN hj hy hf2) pgs_nil hs2) hs1) hn hst
  unfold unpS2 at z
  split at z
  · rename_i x ρ1 q
    split at z
    · rename_i a b q2
      split at z
      · rename_i hl
        cases z
        refine ps_imp (ps_asg (he.ok _ _ _ q) hg hs hw h1) fun D σ H ⟨g, Hs, env, k⟩ => ⟨g, Hs, [], env, fun v Hs1 H1 s1 e1 => ?_⟩
        obtain ⟨t, xs, rfl, sq, len, e2⟩ := env_parts e1 q2
        match xs, len with
        | [u, w], _ =>
          refine ⟨t, [u, w], rfl, sq, rfl, u, [w], rfl, w, [], rfl, rfl, k _ Hs1 H1 s1 ?_⟩
          have e3 : EnvAt X.K mk g Hs1 H1 [(w, b)] (σ.set i (some u)) (put ρ1 i (.ow a)) := env_set (by simpa using e2) hl.1 hp1
          exact env_set e3 (by rw [put_len]; exact hl.2) hp2
      · cases z
    · cases z
  · rename_i q
    cases z
    exact ps_imp (ps_asg (he.ex _ _ _ q) hg hs hw h1) fun D σ H ⟨g, Hs, env, k⟩ => ⟨g, Hs, [], env, fun Hs1 H1 s1 e1 => k σ Hs1 H1 s1 e1⟩
  · cases z
def unpS3 (i1 i2 i3 : Nat) (se : En → Option Oe) : FS := fun ρ => match se ρ with
  | some (.ok x ρ1) => (match partsR x with
    | some [a1, a2, a3] => if i1 < ρ1.length ∧ i2 < ρ1.length ∧ i3 < ρ1.length then some (.nx (put (put (put ρ1 i1 (.ow a1)) i2 (.ow a2)) i3 (.ow a3))) else none
    | _ => none)
  | some (.ex c ρ1) => some (.ex c ρ1)
  | none => none
theorem ss_unp3 {i1 i2 i3 : Nat} {n1 n2 n3 : Str} (hc : X.calm = true) (hN : X.N.Nodup) (hi1 : X.N[i1]? = some n1) (hi2 : X.N[i2]? = some n2) (hi3 : X.N[i3]? = some n3) (xi1 : Loc X.env.scope n1) (xi2 : Loc X.env.scope n2) (xi3 : Loc X.env.scope n3) (he : SE X mk W e se) (mi1 : mk[i1]? ≠ some true := by decide) (mi2 : mk[i2]? ≠ some true := by decide) (mi3 : mk[i3]? ≠ some true := by decide)
    (hs : swapsWithSole [.Tuple [.Name n1 p1, .Name n2 p2, .Name n3 p3] kt pt] e pos.line X.env = pure false := by rfl) (hw : swappedStores [.Tuple [.Name n1 p1, .Name n2 p2, .Name n3 p3] kt pt] e X.env = pure none := by rfl)
    (h1 : (assignEach [.Tuple [.Name n1 p1, .Name n2 p2, .Name n3 p3] kt pt] X.env).map (·.2) = [assign (.Tuple [.Name n1 p1, .Name n2 p2, .Name n3 p3] kt pt) X.env] := by rfl)
    (fi1 : X.fn n1 = true ∨ X.env.scope.names.lookup n1 = some .local := by first | exact .inl rfl | exact .inr rfl | assumption) (fi2 : X.fn n2 = true ∨ X.env.scope.names.lookup n2 = some .local := by first | exact .inl rfl | exact .inr rfl | assumption) (fi3 : X.fn n3 = true ∨ X.env.scope.names.lookup n3 = some .local := by first | exact .inl rfl | exact .inr rfl | assumption)
    (hn : (assignEach [.Name n1 p1, .Name n2 p2, .Name n3 p3] X.env).length = 3 := by rfl) (hst : (assignEach [.Name n1 p1, .Name n2 p2, .Name n3 p3] X.env).findIdx? (·.1) = none := by rfl)
    (si1 : (assignEach (.Name n1 p1 :: [.Name n2 p2, .Name n3 p3]) X.env).map (·.2) = assign (.Name n1 p1) X.env :: (assignEach [.Name n2 p2, .Name n3 p3] X.env).map (·.2) := by rfl)
    (si2 : (assignEach (.Name n2 p2 :: [.Name n3 p3]) X.env).map (·.2) = assign (.Name n2 p2) X.env :: (assignEach [.Name n3 p3] X.env).map (·.2) := by rfl)
    (si3 : (assignEach (.Name n3 p3 :: []) X.env).map (·.2) = assign (.Name n3 p3) X.env :: (assignEach [] X.env).map (·.2) := by rfl) :
    SS X mk W (.Assign [.Tuple [.Name n1 p1, .Name n2 p2, .Name n3 p3] kt pt] e pos) (unpS3 i1 i2 i3 se) := fun ρ o z => by
  have hg : PG X (.Tuple [.Name n1 p1, .Name n2 p2, .Name n3 p3] kt pt) _ := pg_tup (pos := pt) hc (pgs_cons (pg_name hN hi1 xi1 fi1) (pgs_cons (pg_name hN hi2 xi2 fi2) (pgs_cons (pg_name hN hi3 xi3 fi3) pgs_nil si3) si2) si1) hn hst
  unfold unpS3 at z
  split at z
  · rename_i x ρ1 q
    split at z
    · rename_i a1 a2 a3 q2
      split at z
      · rename_i hl
        cases z
        refine ps_imp (ps_asg (he.ok _ _ _ q) hg hs hw h1) fun D σ H ⟨g, Hs, env, k⟩ => ⟨g, Hs, [], env, fun v Hs1 H1 s1 e1 => ?_⟩
        obtain ⟨t, xs, rfl, sq, len, e2⟩ := env_parts e1 q2
        match xs, len with
        | [u1, u2, u3], _ =>
          refine ⟨t, [u1, u2, u3], rfl, sq, rfl, u1, [u2, u3], rfl, u2, [u3], rfl, u3, [], rfl, rfl, k _ Hs1 H1 s1 ?_⟩
          have g0 : EnvAt X.K mk g Hs1 H1 [(u1, a1), (u2, a2), (u3, a3)] σ ρ1 := by simpa using e2
          have g1 := env_set g0 (by exact hl.1) mi1
          have g2 := env_set g1 (by rw [put_len]; exact hl.2.1) mi2
          have g3 := env_set g2 (by rw [put_len, put_len]; exact hl.2.2) mi3
          exact g3
      · cases z
    · cases z
  · rename_i q
    cases z
    exact ps_imp (ps_asg (he.ex _ _ _ q) hg hs hw h1) fun D σ H ⟨g, Hs, env, k⟩ => ⟨g, Hs, [], env, fun Hs1 H1 s1 e1 => k σ Hs1 H1 s1 e1⟩
  · cases z
def unpS4 (i1 i2 i3 i4 : Nat) (se : En → Option Oe) : FS := fun ρ => match se ρ with
  | some (.ok x ρ1) => (match partsR x with
    | some [a1, a2, a3, a4] => if i1 < ρ1.length ∧ i2 < ρ1.length ∧ i3 < ρ1.length ∧ i4 < ρ1.length then some (.nx (put (put (put (put ρ1 i1 (.ow a1)) i2 (.ow a2)) i3 (.ow a3)) i4 (.ow a4))) else none
    | _ => none)
  | some (.ex c ρ1) => some (.ex c ρ1)
  | none => none
theorem ss_unp4 {i1 i2 i3 i4 : Nat} {n1 n2 n3 n4 : Str} (hc : X.calm = true) (hN : X.N.Nodup) (hi1 : X.N[i1]? = some n1) (hi2 : X.N[i2]? = some n2) (hi3 : X.N[i3]? = some n3) (hi4 : X.N[i4]? = some n4) (xi1 : Loc X.env.scope n1) (xi2 : Loc X.env.scope n2) (xi3 : Loc X.env.scope n3) (xi4 : Loc X.env.scope n4) (he : SE X mk W e se) (mi1 : mk[i1]? ≠ some true := by decide) (mi2 : mk[i2]? ≠ some true := by decide) (mi3 : mk[i3]? ≠ some true := by decide) (mi4 : mk[i4]? ≠ some true := by decide)
    (hs : swapsWithSole [.Tuple [.Name n1 p1, .Name n2 p2, .Name n3 p3, .Name n4 p4] kt pt] e pos.line X.env = pure false := by rfl) (hw : swappedStores [.Tuple [.Name n1 p1, .Name n2 p2, .Name n3 p3, .Name n4 p4] kt pt] e X.env = pure none := by rfl)
    (h1 : (assignEach [.Tuple [.Name n1 p1, .Name n2 p2, .Name n3 p3, .Name n4 p4] kt pt] X.env).map (·.2) = [assign (.Tuple [.Name n1 p1, .Name n2 p2, .Name n3 p3, .Name n4 p4] kt pt) X.env] := by rfl)
    (fi1 : X.fn n1 = true ∨ X.env.scope.names.lookup n1 = some .local := by first | exact .inl rfl | exact .inr rfl | assumption) (fi2 : X.fn n2 = true ∨ X.env.scope.names.lookup n2 = some .local := by first | exact .inl rfl | exact .inr rfl | assumption) (fi3 : X.fn n3 = true ∨ X.env.scope.names.lookup n3 = some .local := by first | exact .inl rfl | exact .inr rfl | assumption) (fi4 : X.fn n4 = true ∨ X.env.scope.names.lookup n4 = some .local := by first | exact .inl rfl | exact .inr rfl | assumption)
    (hn : (assignEach [.Name n1 p1, .Name n2 p2, .Name n3 p3, .Name n4 p4] X.env).length = 4 := by rfl) (hst : (assignEach [.Name n1 p1, .Name n2 p2, .Name n3 p3, .Name n4 p4] X.env).findIdx? (·.1) = none := by rfl)
    (si1 : (assignEach (.Name n1 p1 :: [.Name n2 p2, .Name n3 p3, .Name n4 p4]) X.env).map (·.2) = assign (.Name n1 p1) X.env :: (assignEach [.Name n2 p2, .Name n3 p3, .Name n4 p4] X.env).map (·.2) := by rfl)
    (si2 : (assignEach (.Name n2 p2 :: [.Name n3 p3, .Name n4 p4]) X.env).map (·.2) = assign (.Name n2 p2) X.env :: (assignEach [.Name n3 p3, .Name n4 p4] X.env).map (·.2) := by rfl)
    (si3 : (assignEach (.Name n3 p3 :: [.Name n4 p4]) X.env).map (·.2) = assign (.Name n3 p3) X.env :: (assignEach [.Name n4 p4] X.env).map (·.2) := by rfl)
    (si4 : (assignEach (.Name n4 p4 :: []) X.env).map (·.2) = assign (.Name n4 p4) X.env :: (assignEach [] X.env).map (·.2) := by rfl) :
    SS X mk W (.Assign [.Tuple [.Name n1 p1, .Name n2 p2, .Name n3 p3, .Name n4 p4] kt pt] e pos) (unpS4 i1 i2 i3 i4 se) := fun ρ o z => by
  have hg : PG X (.Tuple [.Name n1 p1, .Name n2 p2, .Name n3 p3, .Name n4 p4] kt pt) _ := pg_tup (pos := pt) hc (pgs_cons (pg_name hN hi1 xi1 fi1) (pgs_cons (pg_name hN hi2 xi2 fi2) (pgs_cons (pg_name hN hi3 xi3 fi3) (pgs_cons (pg_name hN hi4 xi4 fi4) pgs_nil si4) si3) si2) si1) hn hst
  unfold unpS4 at z
  split at z
  · rename_i x ρ1 q
    split at z
    · rename_i a1 a2 a3 a4 q2
      split at z
      · rename_i hl
        cases z
        refine ps_imp (ps_asg (he.ok _ _ _ q) hg hs hw h1) fun D σ H ⟨g, Hs, env, k⟩ => ⟨g, Hs, [], env, fun v Hs1 H1 s1 e1 => ?_⟩
        obtain ⟨t, xs, rfl, sq, len, e2⟩ := env_parts e1 q2
        match xs, len with
        | [u1, u2, u3, u4], _ =>
          refine ⟨t, [u1, u2, u3, u4], rfl, sq, rfl, u1, [u2, u3, u4], rfl, u2, [u3, u4], rfl, u3, [u4], rfl, u4, [], rfl, rfl, k _ Hs1 H1 s1 ?_⟩
          have g0 : EnvAt X.K mk g Hs1 H1 [(u1, a1), (u2, a2), (u3, a3), (u4, a4)] σ ρ1 := by simpa using e2
          have g1 := env_set g0 (by exact hl.1) mi1
          have g2 := env_set g1 (by rw [put_len]; exact hl.2.1) mi2
          have g3 := env_set g2 (by rw [put_len, put_len]; exact hl.2.2.1) mi3
          have g4 := env_set g3 (by rw [put_len, put_len, put_len]; exact hl.2.2.2) mi4
          exact g4
      · cases z
    · cases z
  · rename_i q
    cases z
    exact ps_imp (ps_asg (he.ex _ _ _ q) hg hs hw h1) fun D σ H ⟨g, Hs, env, k⟩ => ⟨g, Hs, [], env, fun Hs1 H1 s1 e1 => k σ Hs1 H1 s1 e1⟩
  · cases z
end
end Cg

/-! A call whose first argument has effects. -/
namespace Cg
open PySem L2
section
variable {X : Cx} {mk : List Bool} {W : WX} {e : Expr} {es : List Expr} {pos pp : Pos} {se : En → Option Oe} {ss : En → Option (Rz (List Rs))}
def ca1E (F : List Rs → Option Rt) (se : En → Option Oe) (ss : En → Option (Rz (List Rs))) : En → Option Oe := fun ρ => match se ρ with
  | some (.ok x ρ1) => (match okk (ss ρ1) with
    | some rs => (match F (x :: rs) with
      | some (.ok y _) => some (.ok y ρ1)
      | some (.ex c _) => some (.ex c ρ1)
      | none => none)
    | none => none)
  | some (.ex c ρ1) => some (.ex c ρ1)
  | none => none
theorem se_call1 {f : Str} {j k : Nat} {F : List Rs → Option Rt} (G : Fq X.prog X.w X.K X.mg X.base (He.ga X.K f) j [] F) (hm : X.mg f = some (.ref (He.ga X.K f))) (hk : PySem.W.keepIn X.K (.ref (He.ga X.K f)) = true) (hr : Room k X.A) (tk : Takes X W) (he : SE X mk W e se) (ha : SAs X W es ss) (hj : j ≤ k := by decide) (hg : Gl X f := by rfl)
    (hdb : (f == ("__debug__" : Str)) = false := by decide) (hst : starEach (e :: es) X.env = (false, eval e X.env) :: starEach es X.env := by rfl) (hpl : (backTo pos (starEach es X.env)).any (·.1) = false := by rfl) :
    SE X mk W (.Call (.Name f pp) (e :: es) [] pos) (ca1E F se ss) := by
  obtain ⟨fd, ps, hb, G⟩ := G
  refine ⟨fun ρ y ρ2 z => ?_, fun ρ cc ρ2 z => ?_⟩ <;> unfold ca1E at z <;> split at z
  · rename_i x ρ1 q1
    split at z
    · rename_i rs q2
      split at z
      · rename_i q3
        cases z
        refine pe_imp (pe_callS G (hr.mono hj) hg hm hk hb (fun σ => passAt tk σ) (pa_cons (he.ok _ _ _ q1) (ha.ok _ _ (okk_some q2)) hst) hdb hst hpl) fun σ H Q ⟨g, Hs, T, env, k⟩ => ⟨g, Hs, T, env, fun v Hs1 H1 s1 e1 => ⟨Hs1, _, env_q e1, fun vs Hs2 H2 e2 os => ?_⟩⟩
        have e3 := env_ext e2 e1
        obtain ⟨fp, o⟩ := own_any e3
        exact spM_quiet e2.sub (env_q e3).nod (.cons o (fun a _ h => h) os) q3 fun u Hs3 H3 fq e4 o4 n4 f4 => k u Hs3 H3 ((s1.trans e2.data).trans e4.data) (env_pop (env_perm (List.Perm.swap ..) (env_new e4 e3 o4 n4 f4)))
      · cases z
      · cases z
    · cases z
  · cases z
  · cases z
  · rename_i x ρ1 q1
    split at z
    · rename_i rs q2
      split at z
      · cases z
      · rename_i q3
        cases z
        refine pe_imp (pe_callS G (hr.mono hj) hg hm hk hb (fun σ => passAt tk σ) (pa_cons (he.ok _ _ _ q1) (ha.ok _ _ (okk_some q2)) hst) hdb hst hpl) fun σ H Q ⟨g, Hs, T, env, k⟩ => ⟨g, Hs, T, env, fun v Hs1 H1 s1 e1 => ⟨Hs1, _, env_q e1, fun vs Hs2 H2 e2 os => ?_⟩⟩
        have e3 := env_ext e2 e1
        obtain ⟨fp, o⟩ := own_any e3
        exact spM_quiet e2.sub (env_q e3).nod (.cons o (fun a _ h => h) os) q3 fun Hs3 H3 e4 => k Hs3 H3 ((s1.trans e2.data).trans e4.data) (env_pop (env_ext e4 e3))
      · cases z
    · cases z
  · rename_i q1
    cases z
    exact pe_imp (pe_callS G (hr.mono hj) hg hm hk hb (fun σ => passAt tk σ) (pa_cons (he.ex _ _ _ q1) (pa_never (es := es)) hst) hdb hst hpl) fun σ H Q h => h
  · cases z
end
end Cg

/-! Names that are not read any more are let go. -/
namespace Cg
open PySem L2
def kil1 (i : Nat) (ρ : En) : En := match ρ[i]? with
  | some (.ow _) => ρ.set i .un
  | some (.al _ _) => ρ.set i .un
  | _ => ρ
def kil : List Nat → En → En
  | [], ρ => ρ
  | i :: t, ρ => kil t (kil1 i ρ)
def klO (ks : List Nat) : Out → Out
  | .nx ρ => .nx (kil ks ρ)
  | .bk ρ => .bk (kil ks ρ)
  | .ct ρ => .ct (kil ks ρ)
  | o => o
def klS (ks : List Nat) (s : FS) : FS := fun ρ => (s ρ).map (klO ks)
section
variable {K : PySem.W.Frag} {mk : List Bool} {g : Gh} {Hs H : Hp} {T : List VR} {σ : St} {ρ : En}
theorem sl_al : ∀ {σ : St} {ρ : En} {L : List VR} {i j : Nat} {π : List Pe}, Sl σ ρ L → ρ[i]? = some (.al j π) → Sl σ (ρ.set i .un) L
  | _, _, _, _, _, _, .nil, e => by simp at e
  | _, _, _, 0, _, _, .un _, e => by simp at e
  | _, _, _, 0, _, _, .bo _, e => by simp at e
  | _, _, _, 0, _, _, .al h, e => .un h
  | _, _, _, 0, _, _, .ow _, e => by simp at e
  | _, _, _, i + 1, _, _, .un h, e => .un (sl_al (i := i) h (by simpa using e))
  | _, _, _, i + 1, _, _, .bo h, e => .bo (sl_al (i := i) h (by simpa using e))
  | _, _, _, i + 1, _, _, .al h, e => .al (sl_al (i := i) h (by simpa using e))
  | _, _, _, i + 1, _, _, .ow h, e => .ow (sl_al (i := i) h (by simpa using e))
theorem env_kil1 (i : Nat) (e : EnvAt K mk g Hs H T σ ρ) : EnvAt K mk g Hs H T σ (kil1 i ρ) := by
  unfold kil1
  split
  · rename_i r h
    obtain ⟨v, _, e1⟩ := env_mv e h
    exact env_pop e1
  · rename_i j π h
    obtain ⟨⟨L, sl, h8⟩, pk, bor, als⟩ := e
    have hl : i < ρ.length := (List.getElem?_eq_some_iff.mp h).1
    refine ⟨⟨L, sl_al sl h, h8⟩, pk, fun k r hk => ?_, fun k l π' hk => ?_⟩
    · by_cases hik : i = k
      · subst hik; rw [List.getElem?_set_self hl] at hk; cases hk
      · rw [List.getElem?_set_ne hik] at hk; exact bor k r hk
    · by_cases hik : i = k
      · subst hik; rw [List.getElem?_set_self hl] at hk; cases hk
      · rw [List.getElem?_set_ne hik] at hk; exact als k l π' hk
  · exact e
theorem env_kil : ∀ (ks : List Nat) {ρ : En}, EnvAt K mk g Hs H T σ ρ → EnvAt K mk g Hs H T σ (kil ks ρ)
  | [], _, e => e
  | i :: t, _, e => env_kil t (env_kil1 i e)
theorem tPost_kil {W : WX} {D : Ends} {o : Out} (ks : List Nat) (k : tPost K mk W (klO ks o) D g Hs) : tPost K mk W o D g Hs := by
  cases o with
  | nx ρ' => exact fun σ' Hs' H' s' e => k σ' Hs' H' s' (env_kil ks e)
  | bk ρ' => exact fun σ' Hs' H' s' e => k σ' Hs' H' s' (env_kil ks e)
  | ct ρ' => exact fun σ' Hs' H' s' e => k σ' Hs' H' s' (env_kil ks e)
  | rt x ρ' => exact k
  | ex x ρ' => exact k
end
section
variable {X : Cx} {mk : List Bool} {W : WX} {st : Stmt} {body : List Stmt} {s : FS}
theorem ss_kl (ks : List Nat) (h : SS X mk W st s) : SS X mk W st (klS ks s) := fun ρ o z => by
  unfold klS at z
  obtain ⟨o', q, rfl⟩ := map_some z
  exact ps_imp (h ρ o' q) fun D σ H ⟨g, Hs, env, k⟩ => ⟨g, Hs, env, tPost_kil ks k⟩
theorem sss_kl (ks : List Nat) (h : SSs X mk W body s) : SSs X mk W body (klS ks s) := fun ρ o z => by
  unfold klS at z
  obtain ⟨o', q, rfl⟩ := map_some z
  exact pss_imp (h ρ o' q) fun D σ H ⟨g, Hs, env, k⟩ => ⟨g, Hs, env, tPost_kil ks k⟩
end
end Cg

/-! try: .. except W as e: x = [isinstance(e, ValueError), isinstance(e, C), ..] -/
namespace Cg
open PySem L2
def fls (ts : List Str) (c : Str) : List PyData := .bool true :: ts.map fun d => .bool (decide (c = d))
structure ExOne (K : PySem.W.Frag) (w : Str) (ts : List Str) (c : Str) : Prop where
  exc : ExcC K (He.ga K c)
  exm : PySem.W.exmOne K (.ref (He.ga K c)) (.ref (He.ga K w)) = some true
  ve : PySem.W.kitOne K (.ref (He.ga K c)) (.type "ValueError") = some true
  kit : ∀ d ∈ ts, PySem.W.kitOne K (.ref (He.ga K c)) (.ref (He.ga K d)) = some (decide (c = d))
inductive IsL (X : Cx) (e : Str) : List Expr → List Str → Prop
  | nil : IsL X e [] []
  | cons {p1 p2 p3 p4 : Pos} {d : Str} {es : List Expr} {ds : List Str} (hm : X.mg d = some (.ref (He.ga X.K d))) (hg : Gl X d) (hd : (d == ("__debug__" : Str)) = false) (t : IsL X e es ds) : IsL X e (.Call (.Name "isinstance" p1) [.Name e p2, .Name d p3] [] p4 :: es) (d :: ds)
section
variable {X : Cx} {a : Addr} {c w e x : Str} {ts : List Str} {oe : Obj} {pn : List (Addr × Obj)} {ie ix : Nat}
theorem pa_isL (hi : X.mg "isinstance" = none) (hgi : Gl X "isinstance") (hN : X.N[ie]? = some e) (hv : Vis X.env.scope e) (hde : (e == ("__debug__" : Str)) = false) (hcd : (e == ("__classdict__" : Str)) = false) (E : ExOne X.K w ts c) (hz : Zc (clsV X.K c) none oe) (hf : ∃ vs, oe.data = .fields vs) :
    ∀ {es : List Expr} {ds : List Str}, IsL X e es ds → (∀ d ∈ ds, d ∈ ts) → PA (X.suite a ((a, oe) :: pn)) es (fun σ H Q => σ[ie]? = some (some (.ref a)) ∧ Q (ds.map fun d => .bl (decide (c = d))) H)
  | _, _, .nil, _ => pa_imp pa_nil fun σ H Q h => h.2
  | _, _, .cons hm hg hd t, hs => by
    have q := pa_isL hi hgi hN hv hde hcd E hz hf t fun d m => hs d (by simp [m])
    refine pa_imp (pa_cons (pe_callB (call_isE (X := X) (pn := pn) E.exc hz hf) hgi hi (by decide +kernel) (pa_cons (pe_var (X := X.suite a ((a, oe) :: pn)) hN hv hde hcd) (pa_cons (pe_glob (X := X.suite a ((a, oe) :: pn)) (v := .ref (He.ga X.K _)) hg hm rfl hd) pa_nil))) q) fun σ H Q h => ?_
    exact ⟨.ref a, h.1, .ref (He.ga X.K _), .ref (He.ga X.K _), _, rfl, fun u r => r, E.kit _ (hs _ (by simp)), h.1, h.2⟩
theorem sl_un : ∀ {σ : St} {ρ : En} {L : List VR} {i : Nat} (s : Option V), Sl σ ρ L → ρ[i]? = some .un → Sl (σ.set i s) ρ L
  | _, _, _, _, _, .nil, e => by simp at e
  | _, _, _, 0, _, .un h, e => .un h
  | _, _, _, 0, _, .bo _, e => by simp at e
  | _, _, _, 0, _, .al h, e => by simp at e
  | _, _, _, 0, _, .ow _, e => by simp at e
  | _, _, _, i + 1, s, .un h, e => .un (sl_un (i := i) s h (by simpa using e))
  | _, _, _, i + 1, s, .bo h, e => .bo (sl_un (i := i) s h (by simpa using e))
  | _, _, _, i + 1, s, .al h, e => .al (sl_un (i := i) s h (by simpa using e))
  | _, _, _, i + 1, s, .ow h, e => .ow (sl_un (i := i) s h (by simpa using e))
theorem dropA_un {i j : Nat} : ∀ {ρ : En}, ρ[j]? = some .un → (dropA i ρ)[j]? = some .un := fun {ρ} h => by
  rw [dropA_map, List.getElem?_map, h]; rfl
theorem env_unset {K : PySem.W.Frag} {mk : List Bool} {g : Gh} {Hs H : Hp} {T : List VR} {σ : St} {ρ : En} {i : Nat} (s : Option V) (env : EnvAt K mk g Hs H T σ ρ) (hi : ρ[i]? = some .un) (hp : mk[i]? ≠ some true) : EnvAt K mk g Hs H T (σ.set i s) (dropA i ρ) := by
  obtain ⟨⟨L, sl, h8⟩, pk, bor, als⟩ := env
  refine ⟨⟨L, sl_un s (sl_drop i sl) (dropA_un hi), h8⟩, fun j w h1 h2 => ?_, fun j r h1 => ?_, fun j k π h1 => ?_⟩
  · rw [List.getElem?_set_ne (fun z => hp (by rw [z]; exact h1))]
    exact pk j w h1 h2
  · have h2 := dropA_bo h1
    have : i ≠ j := fun z => by subst z; rw [hi] at h2; cases h2
    rw [List.getElem?_set_ne this]
    exact bor j r h2
  · obtain ⟨h2, hk⟩ := dropA_al h1
    have : i ≠ j := fun z => by subst z; rw [hi] at h2; cases h2
    rw [List.getElem?_set_ne this, List.getElem?_set_ne (Ne.symm hk)]
    exact als j k π h2
def unAt (ρ : En) (i : Nat) : Bool := match ρ[i]? with
  | some .un => true
  | _ => false
theorem unAt_ok {ρ : En} {i : Nat} (h : unAt ρ i = true) : ρ[i]? = some .un := by
  unfold unAt at h
  split at h
  · assumption
  · cases h
def tryS (cs ts : List Str) (ix ie : Nat) (b : FS) : FS := fun ρ => match b ρ with
  | some (.ex c ρ1) => if cs.contains c = true ∧ ix < ρ1.length ∧ unAt ρ1 ie = true then some (.nx (put (dropA ie ρ1) ix (.ow (.lst (fls ts c))))) else none
  | r => r
theorem dp_bools {K : PySem.W.Frag} {H : Hp} (f : Str → Bool) : ∀ ts : List Str, DpAll K H (ts.map fun d => .bl (f d)) (ts.map fun d => .bool (f d))
  | [] => .nil
  | _ :: ts => .cons (.bl _) (dp_bools f ts)
theorem set_set3 {σ : St} {i j : Nat} {a b c : Option V} (h : i ≠ j) : ((σ.set i a).set j b).set i c = (σ.set i c).set j b := by
  rw [List.set_comm _ _ h.symm, List.set_set]
theorem ss_try {mk : List Bool} {W : WX} {cs : List Str} {body : List Stmt} {es : List Expr} {np xp q1 q2 q3 q4 lp ap hp0 pos : Pos} {sb : FS} (hs : X.stack = X.env :: X.outer) (hf : X.env.frame = some X.env.locals) (hN : X.N.Nodup) (hie : X.N[ie]? = some e) (hix : X.N[ix]? = some x)
    (hw : X.mg w = some (.ref (He.ga X.K w))) (hi : X.mg "isinstance" = none) (hve : X.mg "ValueError" = none) (tk : Takes X W) (E : ∀ c ∈ cs, ExOne X.K w ts c) (hL : IsL X e es ts)
    (hb : ∀ W' pn xe, Takes (X.tr pn xe) W' → PassesOwn (model X.prog X.w) X.A X.env xe → SSs (X.tr pn xe) mk W' body sb)
    (hle : X.env.kindOf e = some .local := by rfl) (hlx : X.env.kindOf x = some .local := by rfl) (hgw : Gl X w := by rfl) (hdw : (w == ("__debug__" : Str)) = false := by decide) (hgi : Gl X "isinstance" := by rfl) (hgve : Gl X "ValueError" := by rfl) (hne : ie ≠ ix := by decide) (hp : mk[ix]? ≠ some true := by decide) (hpe : mk[ie]? ≠ some true := by decide)
    (hde : (e == ("__debug__" : Str)) = false := by decide) (hcd : (e == ("__classdict__" : Str)) = false := by decide) (hlen : ts.length ≤ 1000 := by decide) (hsw : swapsWith (.List (.Call (.Name "isinstance" q1) [.Name e q2, .Name "ValueError" q3] [] q4 :: es) lp) (some (.Name x xp)) ap.line X.env = pure false := by rfl) :
    SS X mk W (.Try body [.ExceptHandler (some (.Name w np)) (some e) [.Assign [.Name x xp] (.List (.Call (.Name "isinstance" q1) [.Name e q2, .Name "ValueError" q3] [] q4 :: es) lp) ap] hp0] [] [] pos) (tryS cs ts ix ie sb) := fun ρ o z => by
  unfold tryS at z
  split at z
  · rename_i c ρ1 q
    split at z
    · rename_i hh
      obtain ⟨hc, hl, hu⟩ := hh
      have hu := unAt_ok hu
      cases z
      have Ec := E c (by simpa using hc)
      have key := ps_try_as (X := X) (Wout := W) (pos := pos) (pos' := hp0) (np := np) (body := body) (b₀ := .Assign [.Name x xp] (.List (.Call (.Name "isinstance" q1) [.Name e q2, .Name "ValueError" q3] [] q4 :: es) lp) ap) (suite := []) (c := .ref (He.ga X.K w)) hs hf hN hie hle (x := w) ⟨hgw, hdw, .inl hw⟩ tk (tb := fun W' => tSt X.K mk W' ρ (.ex c ρ1))
        (ts := fun a cls d D σ H => cls = clsV X.K c ∧ d = none ∧ σ[ie]? = some (some (.ref a)) ∧ ∀ p, H p = none → D.nx (σ.set ix (some (.ref p))) (upd H p (.lst (.bl true :: ts.map fun d => .bl (decide (c = d))))))
        (fun W' pn xe tk' ps' => hb W' pn xe tk' ps' ρ _ q) (fun a oe cls d pn hz hfd => ⟨fun pins s σ H D I h => ?_⟩)
      · refine ps_imp key fun D σ H ⟨g, Hs, env, k⟩ => ⟨g, Hs, env, fun σ' Hs' H' s' env' => ⟨true, Ec.exm, fun _ a na => ⟨rfl, rfl, ?_, fun p np => ?_⟩, fun z => nomatch z⟩⟩
        · obtain ⟨L, sl, _⟩ := env'.st
          rw [List.getElem?_set_self]
          rw [sl_len sl]
          exact (List.getElem?_eq_some_iff.mp hu).1
        · show D.nx _ _
          rw [set_set3 hne]
          have e1 := env_unset none env' hu hpe
          have sub := env_sub env'
          have e2 := env_new (v := .ref p) (x := .lst (fls ts c)) (fp := [p]) (Ext.more (p := p) (o := .lst (.bl true :: ts.map fun d => .bl (decide (c = d)))) sub np) e1 (.lst upd_same (.cons (.bl true) (dp_bools _ ts))) (by simp) (fun a m => by
            have z : a = p := by simpa using m
            subst z
            exact ⟨np, sub.free np⟩)
          exact k _ Hs' _ s' (env_set e2 (by rw [dropA_len]; exact hl) hp)
      · obtain ⟨rfl, rfl, h1, h2⟩ := h
        have pa := pa_isL (a := a) (pn := pn) hi hgi hie (.inl hle) hde hcd Ec hz hfd hL fun d m => m
        have st := pss_one (ps_set (X := X.suite a ((a, oe) :: pn)) (pos := ap) (pos' := xp) hN hix (.inl hlx) (pe_lst (pos := lp) (pa_cons (pe_callB (p := q1) (pos := q4) (call_isE (X := X) (pn := pn) Ec.exc hz hfd) hgi hi (by decide +kernel) (pa_cons (pe_var (X := X.suite a ((a, oe) :: pn)) (pos := q2) hie (.inl hle) hde hcd) (pa_cons (pe_bltn (X := X.suite a ((a, oe) :: pn)) (v := .ty "ValueError") (pos := q3) hgve hve (by decide +kernel) rfl) pa_nil))) pa)) hsw (.inr hlx))
        refine st.run pins s σ H D I ⟨.ref a, h1, .ty "ValueError", .type "ValueError", true, rfl, fun u r => r, Ec.ve, h1, ?_, fun p np => h2 p np⟩
        simp [sizeLine]
        omega
    · cases z
  · rename_i hne'
    have key := ps_try_as (X := X) (Wout := W) (pos := pos) (pos' := hp0) (np := np) (body := body) (b₀ := .Assign [.Name x xp] (.List (.Call (.Name "isinstance" q1) [.Name e q2, .Name "ValueError" q3] [] q4 :: es) lp) ap) (suite := []) (c := .ref (He.ga X.K w)) hs hf hN hie hle (x := w) ⟨hgw, hdw, .inl hw⟩ tk (tb := fun W' => tSt X.K mk W' ρ o)
      (ts := fun _ _ _ _ _ _ => False) (fun W' pn xe tk' ps' => hb W' pn xe tk' ps' ρ _ z) (fun a oe cls d pn hz hfd => ⟨fun pins s σ H D I h => h.elim⟩)
    refine ps_imp key fun D σ H ⟨g, Hs, env, k⟩ => ⟨g, Hs, env, ?_⟩
    cases o with
    | nx => exact k
    | bk => exact k
    | ct => exact k
    | rt => exact k
    | ex c ρ1 => exact (hne' _ _ z).elim
end
/-! the facts, read in one run -/
def excCB (K : PySem.W.Frag) (D : Addr) : Bool := He.eqO (PySem.W.findIn K (.ref D) "__getattribute__") (some (some (.builtin "BaseException.__getattribute__"))) && (He.eqO (PySem.W.findIn K (.ref D) "__getattr__") (some none) && (decide (PySem.W.subIn K (.ref D) (.type "BaseException") = some true) && (PySem.W.hasDictIn K D && (He.eqO (PySem.W.findIn K (.ref D) "__class__") (some (some (.builtin "object.__class__"))) &&
  (He.eqO (PySem.W.specialIn K (.builtin "object.__class__") "__get__") (some (some (.builtin "getset_descriptor.__get__"))) && (decide (PySem.W.takesIn K (.builtin "object.__class__") = some true) && decide (PySem.W.mroIn K D (.type "object") = some true)))))))
theorem excCB_ok {K : PySem.W.Frag} {D : Addr} (h : excCB K D = true) : ExcC K D := by
  obtain ⟨h1, h⟩ := He.ba h
  obtain ⟨h2, h⟩ := He.ba h
  obtain ⟨h3, h⟩ := He.ba h
  obtain ⟨h4, h⟩ := He.ba h
  obtain ⟨h5, h⟩ := He.ba h
  obtain ⟨h6, h⟩ := He.ba h
  obtain ⟨h7, h8⟩ := He.ba h
  exact ⟨He.eqO_ok h1, He.eqO_ok h2, of_decide_eq_true h3, h4, He.eqO_ok h5, He.eqO_ok h6, of_decide_eq_true h7, of_decide_eq_true h8⟩
def exTB (w : Str) (cs ts : List Str) (K : PySem.W.Frag) : Bool := cs.all fun c => excCB K (He.ga K c) && (decide (PySem.W.exmOne K (.ref (He.ga K c)) (.ref (He.ga K w)) = some true) && (decide (PySem.W.kitOne K (.ref (He.ga K c)) (.type "ValueError") = some true) && ts.all fun d => decide (PySem.W.kitOne K (.ref (He.ga K c)) (.ref (He.ga K d)) = some (decide (c = d)))))
theorem exTB_ok {K : PySem.W.Frag} {w : Str} {cs ts : List Str} (h : exTB w cs ts K = true) : ∀ c ∈ cs, ExOne K w ts c := fun c m => by
  obtain ⟨h1, h⟩ := He.ba (List.all_eq_true.mp h c m)
  obtain ⟨h2, h⟩ := He.ba h
  obtain ⟨h3, h4⟩ := He.ba h
  exact ⟨excCB_ok h1, of_decide_eq_true h2, of_decide_eq_true h3, fun d md => of_decide_eq_true (List.all_eq_true.mp h4 d md)⟩
abbrev AlE : Type := He.AlD × Bool
def obsE (n : Nat) (fa : List He.Fa) (fn : List He.DefD) (ex : PySem.W.Frag → Bool) (g : Addr → Option Obj) : AlE := (He.obsD fa fn (He.frG g (He.asD g n)), ex (He.frG g (He.asD g n)))
structure SaysE (fa : List He.Fa) (fn : List He.DefD) (ex : PySem.W.Frag → Bool) (K : PySem.W.Frag) : Prop where
  d : He.SaysD fa fn K
  more : ex K = true
def hookE (n : Nat) (fa : List He.Fa) (fn : List He.DefD) (ex : PySem.W.Frag → Bool) : PySem.W.Hook where
  α := AlE
  obs := fun s => obsE n fa fn ex s.heap.get?
  val := fun _ => (He.valD fn, true)
  says := fun _ h => ∃ K : PySem.W.Frag, K.In h ∧ SaysE fa fn ex K
  of := fun _ _ e => ⟨_, He.frG_in, ⟨congrArg (fun z : AlE => z.1) e, congrArg (fun z : AlE => z.2) e⟩⟩
  keeps := fun _ _ _ ⟨K, hK, c⟩ k => ⟨K, PySem.W.Frag.In.keeps hK k, c⟩
theorem obsE_eq {n : Nat} {fa : List He.Fa} {fn : List He.DefD} {ex : PySem.W.Frag → Bool} {g : Addr → Option Obj} {s : Shared} (h : ∀ a, g a = s.heap.get? a) : obsE n fa fn ex g = (hookE n fa fn ex).obs s := by
  have e : g = s.heap.get? := funext h
  rw [e] <;> rfl
end Cg

/-! sorted(xs), xs data that are alike. -/
namespace Cg
open PySem L2
def SortOk (ds : List PyData) : Prop := PySem.W.AllAlike ds ∧ PySem.W.Sortable ds ∧ ∀ d ∈ ds, d.depth ≤ 50
def rSrt (K : PySem.W.Frag) : List V → Hp → VK → Prop := fun vs H Q => ∃ (a : Addr) (xs : List V) (ds : List PyData), vs = [V.ref a] ∧ SqL K H a xs ∧ L2.DpAll K H xs ds ∧ SortOk ds ∧
  ∀ (zs : List (V × PyData)) (p : Addr), zs.Perm (xs.zip ds) → zs.map (·.2) = ds.mergeSort (PySem.W.dataLe false id) → H p = none → Q (.ref p) (upd H p (.lst (zs.map (·.1))))
theorem dpAll2_zip {K : PySem.W.Frag} {H : Hp} : ∀ {xs : List V} {ds : List PyData}, L2.DpAll K H xs ds → xs.length = ds.length ∧ ∀ p ∈ xs.zip ds, L2.Dp K H p.1 p.2
  | _, _, .nil => ⟨rfl, by simp⟩
  | _, _, .cons h t => by
    obtain ⟨a, b⟩ := dpAll2_zip t
    refine ⟨by simp [a], fun p hp => ?_⟩
    rcases List.mem_cons.mp hp with rfl | hp
    · exact h
    · exact b p hp
theorem zip_snd {xs : List V} : ∀ {ds : List PyData}, xs.length = ds.length → (xs.zip ds).map (·.2) = ds := fun {ds} h => by
  rw [List.map_snd_zip]; omega
theorem zip_fst {xs : List V} : ∀ {ds : List PyData}, xs.length = ds.length → (xs.zip ds).map (·.1) = xs := fun {ds} h => by
  rw [List.map_fst_zip]; omega
section
variable {X : Cx}
theorem vals_each : ∀ {bs : List (V × PyData)} {us : List Value}, Vals (bs.map (·.1)) us → PySem.W.EachIs (fun u b => RelV b.1 u) us bs
  | [], _, .nil => .nil
  | _ :: _, _, .cons r t => .cons r (vals_each t)
theorem each_vals : ∀ {bs : List (V × PyData)} {us : List Value}, PySem.W.EachIs (fun u b => RelV b.1 u) us bs → Vals (bs.map (·.1)) us
  | [], _, .nil => .nil
  | _ :: _, _, .cons r t => .cons r (each_vals t)
theorem cr_srt (hu : X.A.units + 64 < cLine) : CallR X (.builtin "sorted") (rSrt X.K) := by
  intro pins s σ H vs us Q I r h
  obtain ⟨a, xs, ds, rfl, hs, hd, ⟨so1, so2, so3⟩, q⟩ := h
  obtain ⟨its, rv, hl, hz⟩ := I.list hs
  rw [Vals.ref1 r]
  obtain ⟨hlen, hz2⟩ := dpAll2_zip hd
  have e1 : (xs.zip ds).map (fun b : V × PyData => b.2) = ds := zip_snd hlen
  have rv' : Vals ((xs.zip ds).map (·.1)) its := by rw [zip_fst hlen]; exact rv
  have hzl : (xs.zip ds).length = xs.length := by rw [List.length_zip]; omega
  refine PySem.W.sorted_data (R := fun u b => RelV b.1 u) (bs := xs.zip ds) (enc := fun b => b.2) hl.isList (vals_each rv') ?_ (by rw [e1]; exact so1) (by rw [e1]; exact so2) (by rw [hzl]; exact hz) (fun b hb => ?_) fun out hol he => ?_
  · have key : ∀ {bs : List (V × PyData)} {us : List Value}, PySem.W.EachIs (fun u b => RelV b.1 u) us bs → (∀ p ∈ bs, L2.Dp X.K H p.1 p.2) → PySem.W.EachIs (fun v b => ∃ as, PySem.Reads s.heap v b.2 as) us bs := by
      intro bs
      induction bs with
      | nil => intro us h _; cases h; exact .nil
      | cons b bs ih =>
        intro us h hp
        cases h with
        | cons r t => exact .cons (Dp.reads I b.2 b.1 _ (hp b (by simp)) r) (ih t fun p m => hp p (by simp [m]))
    exact key (vals_each rv') hz2
  · have : b.2 ∈ ds := by rw [← e1]; exact List.mem_map.mpr ⟨b, hb, rfl⟩
    have := so3 _ this
    omega
  · obtain ⟨ep, he'⟩ := PyProof.Rows.sortedAll_at s.heap its out.toArray
    have hp : ((xs.zip ds).mergeSort (PySem.W.dataLe false fun b => b.2)).Perm (xs.zip ds) := List.mergeSort_perm _ _
    have hm : ((xs.zip ds).mergeSort (PySem.W.dataLe false fun b => b.2)).map (·.2) = ds.mergeSort (PySem.W.dataLe false id) := by
      exact (List.map_mergeSort (r := PySem.W.dataLe false fun b : V × PyData => b.2) (s := PySem.W.dataLe false id) (f := fun b : V × PyData => b.2) (l := xs.zip ds) fun a _ b _ => rfl).trans (by rw [e1])
    have hll : (((xs.zip ds).mergeSort (PySem.W.dataLe false fun b => b.2)).map (·.1)).length ≤ sizeLine := by
      rw [List.length_map, hp.length_eq, hzl]; exact hz
    exact ⟨.ref _, upd H (s.heap.objs.size + 1) (.lst _), I.laid (t' := s.toks) (fun _ _ => PyProof.Rows.sortedAll_old) (Nat.le_succ _) ⟨hll, out, ep, each_vals he, he'⟩, rfl, q _ _ hp hm (I.hok.fresh (Nat.le_succ _))⟩
end
noncomputable def srtR (r : Rs) : Option Rs := match asL r with
  | some ds => @ite _ (SortOk ds) (Classical.propDecidable _) (some (.lst (ds.mergeSort (PySem.W.dataLe false id)))) none
  | none => none
section
variable {X : Cx} {W : WX} {a : Expr} {pos pp : Pos} {sa : FE}
theorem dp_zip {K : PySem.W.Frag} {H : Hp} : ∀ {xs : List V} {ds : List PyData}, DpAll K H xs ds → xs.length = ds.length ∧ ∀ p ∈ xs.zip ds, Dp K H p.1 p.2
  | _, _, .nil => ⟨rfl, by simp⟩
  | _, _, .cons h t => by
    obtain ⟨a, b⟩ := dp_zip t
    refine ⟨by simp [a], fun p hp => ?_⟩
    rcases List.mem_cons.mp hp with rfl | hp
    · exact h
    · exact b p hp
theorem dp_unzip {K : PySem.W.Frag} {H : Hp} : ∀ {zs : List (V × PyData)}, (∀ p ∈ zs, Dp K H p.1 p.2) → DpAll K H (zs.map (·.1)) (zs.map (·.2))
  | [], _ => .nil
  | p :: zs, h => .cons (h p (by simp)) (dp_unzip fun q m => h q (by simp [m]))
theorem sv_sorted {k : Nat} (hr : Room k X.A) (hm : X.mg "sorted" = none) (ha : SA X W a sa) (hg : Gl X "sorted" := by rfl) (he : starEach (a :: []) X.env = (false, eval a X.env) :: starEach [] X.env := by rfl) (hpl : (backTo pos (starEach [] X.env)).any (·.1) = false := by rfl) :
    SV X W (.Call (.Name "sorted" pp) [a] [] pos) (op1 srtR sa) :=
  sv_op1 ha fun ρ r x h q => by
    unfold srtR at h
    split at h
    · rename_i ds hds
      split at h
      · rename_i ok
        cases h
        refine q_b1 (cr_srt hr.units) hg hm (by decide +kernel) q (fun v Hs H Q fp s o kk => ?_) (by decide) (by decide) he hpl
        obtain ⟨b, xs, rfl, hb, hd⟩ := asL_own s o hds
        refine ⟨b, xs, ds, rfl, SqL.of hb, dpAll_l2 (dpAll_mono s hd), ok, fun zs p hp hz np => ?_⟩
        obtain ⟨hl, hz2⟩ := dp_zip hd
        have := dp_unzip (zs := zs) fun q m => hz2 q (hp.mem_iff.mp m)
        rw [hz] at this
        exact kfree s this kk p np
      · cases h
    · cases h
end
end Cg

/-! Displays of things that are handed on. -/
namespace Cg
open PySem L2
section
variable {K : PySem.W.Frag} {mk : List Bool} {g : Gh} {Hs H : Hp} {T L : List VR} {σ : St} {ρ : En}
theorem ownL_S {m : Mo} : ∀ {xs : List V} {rs : List Rs} {fp : List Addr}, xs.length = rs.length → OwnL K m Hs H (xs.zip rs) fp → OwnS K m Hs H xs rs fp
  | [], [], _, _, .nil => .nil
  | _ :: _, _ :: _, _, h, .cons o t => .cons o (ownL_S (by simpa using h) t)
/-- a new thing that holds things of one's own -/
theorem st_pack {vs : List V} {rs : List Rs} {p : Addr} {ho : HO} {r : Rs} (h : St9 K g Hs H (vs.zip rs ++ L)) (hl : vs.length = rs.length) (np : H p = none) (mkO : ∀ (H' : Hp) fp, H' p = some ho → OwnS K (.own []) Hs H' vs rs fp → Own K (.own []) Hs H' (.ref p) r (p :: fp)) : St9 K g Hs (upd H p ho) ((.ref p, r) :: L) := by
  obtain ⟨fp, o, n, f⟩ := h.own
  obtain ⟨f1, f2, o1, o2, rfl⟩ := ownL_split o
  have s1 : Same H (upd H p ho) := same_upd np
  have e1 : OwnL K (.own []) Hs (upd H p ho) (vs.zip rs) f1 := ownL_mono (.refl _) o1 fun a _ u z => s1 a u z
  have e2 : OwnL K (.own []) Hs (upd H p ho) L f2 := ownL_mono (.refl _) o2 fun a _ u z => s1 a u z
  have pn : p ∉ f1 ++ f2 := fun m => by
    obtain ⟨u, z⟩ := ownL_there o p m
    rw [np] at z; cases z
  refine ⟨h.sub.trans s1, h.nod, ⟨(p :: f1) ++ f2, .cons (mkO _ _ upd_same (ownL_S hl e1)) e2, ?_, fun a m => ?_⟩, h.data, h.new, fun a u z w l => s1 a u (h.keep a u z w l), fun q hq => ?_⟩
  · rw [List.cons_append]
    exact List.nodup_cons.mpr ⟨pn, n⟩
  · rw [List.cons_append] at m
    rcases List.mem_cons.mp m with rfl | m
    · exact ⟨h.sub.free np, h.free np⟩
    · exact f a m
  · obtain ⟨kv, a, b, c⟩ := h.keepL q hq
    exact ⟨kv, a, b, s1 _ _ c⟩
theorem env_pack {vs : List V} {rs : List Rs} {p : Addr} {ho : HO} {r : Rs} (e : EnvAt K mk g Hs H (vs.zip rs ++ T) σ ρ) (hl : vs.length = rs.length) (np : H p = none) (mkO : ∀ (H' : Hp) fp, H' p = some ho → OwnS K (.own []) Hs H' vs rs fp → Own K (.own []) Hs H' (.ref p) r (p :: fp)) : EnvAt K mk g Hs (upd H p ho) ((.ref p, r) :: T) σ ρ :=
  env_map e (same_upd np) fun L h => st_back (st_pack (st_perm (by
    rw [← List.append_assoc, ← List.append_assoc]
    exact List.perm_append_comm.append_right _) h) hl np mkO)
end
def tEvs (K : PySem.W.Frag) (mk : List Bool) (ρ : En) (rs : List Rs) (ρ1 : En) : TA := fun σ H Q => ∃ g Hs T, EnvAt K mk g Hs H T σ ρ ∧ ∀ vs Hs' H', Same Hs Hs' → vs.length = rs.length → EnvAt K mk g Hs' H' (vs.zip rs ++ T) σ ρ1 → Q vs H'
def SEs (X : Cx) (mk : List Bool) (es : List Expr) (s : En → Option (List Rs × En)) : Prop := ∀ ρ rs ρ1, s ρ = some (rs, ρ1) → PA X es (tEvs X.K mk ρ rs ρ1)
section
variable {X : Cx} {mk : List Bool} {W : WX} {e : Expr} {es : List Expr} {pos : Pos} {se : En → Option Oe} {ss : En → Option (List Rs × En)}
def nilE : En → Option (List Rs × En) := fun ρ => some ([], ρ)
def consE (se : En → Option Oe) (ss : En → Option (List Rs × En)) : En → Option (List Rs × En) := fun ρ => match se ρ with
  | some (.ok x ρ1) => (match ss ρ1 with
    | some (rs, ρ2) => some (x :: rs, ρ2)
    | none => none)
  | _ => none
theorem ses_nil : SEs X mk [] nilE := fun ρ rs ρ1 z => by
  cases z
  exact pa_imp pa_nil fun σ H Q ⟨g, Hs, T, env, k⟩ => k [] Hs H (.refl _) rfl env
theorem ses_cons (h1 : SE X mk W e se) (h2 : SEs X mk es ss) (hs : starEach (e :: es) X.env = (false, eval e X.env) :: starEach es X.env := by rfl) : SEs X mk (e :: es) (consE se ss) := fun ρ rs ρ2 z => by
  unfold consE at z
  split at z
  · rename_i x ρ1 q1
    split at z
    · rename_i rs' ρ2' q2
      cases z
      refine pa_imp (pa_cons (h1.ok _ _ _ q1) (h2 _ _ _ q2) hs) fun σ H Q ⟨g, Hs, T, env, k⟩ => ⟨g, Hs, T, env, fun v Hs1 H1 s1 e1 => ⟨g, Hs1, (v, x) :: T, e1, fun vs Hs2 H2 s2 hl e2 => k (v :: vs) Hs2 H2 (s1.trans s2) (by simp [hl]) (env_perm ?_ e2)⟩⟩
      show (vs.zip rs' ++ (v, x) :: T).Perm ((v, x) :: (vs.zip rs' ++ T))
      exact List.perm_middle
    · cases z
  · cases z
/-- (e, ..) of things that are handed on -/
def tupE (ss : En → Option (List Rs × En)) : En → Option Oe := fun ρ => match ss ρ with
  | some (rs, ρ1) => if rs.length ≤ 1000 then some (.ok (.tup rs) ρ1) else none
  | none => none
theorem se_tup {x1} (h : SEs X mk es ss) : SE X mk W (.Tuple es x1 pos) (tupE ss) := by
  refine ⟨fun ρ x ρ1 z => ?_, fun ρ cc ρ1 z => ?_⟩ <;> unfold tupE at z <;> split at z
  · rename_i rs ρ2 q
    split at z
    · rename_i hl
      cases z
      exact pe_imp (pe_tup (h _ _ _ q)) fun σ H Q ⟨g, Hs, T, env, k⟩ => ⟨g, Hs, T, env, fun vs Hs1 H1 s1 hv e1 => ⟨by rw [hv]; unfold sizeLine; omega, fun p np => k _ Hs1 _ s1 (env_pack e1 hv np fun H' fp a b => .tup a b)⟩⟩
    · cases z
  · cases z
  · split at z <;> cases z
  · cases z
def lsrE (ss : En → Option (List Rs × En)) : En → Option Oe := fun ρ => match ss ρ with
  | some (rs, ρ1) => if rs.length ≤ 1000 then some (.ok (.lsr rs) ρ1) else none
  | none => none
theorem se_lsr (h : SEs X mk es ss) : SE X mk W (.List es pos) (lsrE ss) := by
  refine ⟨fun ρ x ρ1 z => ?_, fun ρ cc ρ1 z => ?_⟩ <;> unfold lsrE at z <;> split at z
  · rename_i rs ρ2 q
    split at z
    · rename_i hl
      cases z
      exact pe_imp (pe_lst (h _ _ _ q)) fun σ H Q ⟨g, Hs, T, env, k⟩ => ⟨g, Hs, T, env, fun vs Hs1 H1 s1 hv e1 => ⟨by rw [hv]; unfold sizeLine; omega, fun p np => k _ Hs1 _ s1 (env_pack e1 hv np fun H' fp a b => .lsr a b)⟩⟩
    · cases z
  · cases z
  · split at z <;> cases z
  · cases z
end
end Cg

/-! A list that is told and changed at once: it is let go. -/
namespace Cg
open PySem L2
section
variable {X : Cx} {mk : List Bool} {W : WX} {e o : Expr} {pos apos cpos : Pos} {so : FE} {sd : FD}
theorem ext_tmp {Hs H Hs1 H1 Hs2 H2 : Hp} {a : Addr} {xs : List V} (e1 : Ext Hs H Hs1 H1) (e2 : Ext Hs1 H1 Hs2 H2) (h0 : H a = none) (h1 : Hs1 a = none) (ha : ∃ u, H1 a = some u) : Ext Hs H Hs2 (upd H2 a (.lst xs)) := by
  have e := e1.trans e2
  have n2 : Hs2 a = none := by
    cases q : Hs2 a with
    | none => rfl
    | some u =>
      rcases e2.new a u q with z | z
      · rw [h1] at z; cases z
      · obtain ⟨u', z'⟩ := ha; rw [z.1] at z'; cases z'
  refine ⟨e.data, fun b u z => ?_, fun b u z => ?_, e.new⟩
  · have : b ≠ a := fun q => by subst q; rw [h0] at z; cases z
    rw [upd_ne this]; exact e.all b u z
  · have : b ≠ a := fun q => by subst q; rw [n2] at z; cases z
    rw [upd_ne this]; exact e.sub b u z
def tmpApp (so : FE) (sd : FD) : En → Option Oe := fun ρ => match so ρ, okk (sd ρ) with
  | some (.ok (.lst ds)), some d => if ds.length < sizeLine then some (.ok (.da .none) ρ) else none
  | _, _ => none
theorem se_tmpApp (ho : SV X W o so) (hd : SD X W e sd) (hbase : attributeBase o "append" X.env (eval o X.env) = eval o X.env := by rfl)
    (hfew : ((backTo cpos (starEach (e :: []) X.env)).all (fun x => !x.1) && (backToKw cpos (keywordEach [] X.env)).all (fun x => x.1.isSome)
        && decide ((e :: ([] : List Expr)).length + ([] : List Keyword).length + (if ([] : List Keyword).isEmpty then 0 else 1) < 30)) = true := by rfl)
    (hline : (apos.endLine == cpos.line) = true := by rfl) (hs : starEach (e :: []) X.env = (false, eval e X.env) :: starEach [] X.env := by rfl) (hplain : (backTo cpos (starEach [] X.env)).any (·.1) = false := by rfl) :
    SE X mk W (.Call (.Attribute o "append" apos) [e] [] cpos) (tmpApp so sd) := by
  refine ⟨fun ρ x ρ1 z => ?_, fun ρ cc ρ1 z => ?_⟩ <;> unfold tmpApp at z <;> split at z
  · rename_i ds d q1 q2
    split at z
    · rename_i hz
      cases z
      refine pe_imp (pe_bm PySem.F.plainAttrs_list PySem.F.slot_list_append PySem.F.type_list_append mt_append (ho.ok _ _ q1) ((sds_cons hd sds_nil hs).ok _ [d] (by rw [consD, okk_some q2]; rfl)) hbase hfew hline hs hplain) fun σ H Q ⟨g, Hs, T, env, k⟩ => ⟨Hs, _, env_q env, fun v Hs1 H1 fp e1 o1 n f => ?_⟩
      cases o1 with
      | lst ha da =>
        rename_i a xs
        refine ⟨.inl ⟨rfl, xs, SqL.of ha⟩, Hs1, _, env_q (env_ext e1 env), fun vs Hs2 H2 e2 dvs => ?_⟩
        obtain ⟨w, rfl, dw⟩ := dpAll_1 dvs
        refine ⟨a, xs, w, rfl, rfl, e2.all _ _ ha, by rw [dpAll_length da]; exact hz, ?_⟩
        have ex := ext_tmp (xs := xs ++ [w]) e1 e2 (f a (by simp)).1 (f a (by simp)).2 ⟨_, ha⟩
        exact k _ Hs2 _ (e1.trans e2).data (env_push (env_ext ex env) .non)
    · cases z
  · cases z
  · split at z <;> cases z
  · cases z
def tmpClr (so : FE) : En → Option Oe := fun ρ => match so ρ with
  | some (.ok (.lst ds)) => some (.ok (.da .none) ρ)
  | _ => none
theorem se_tmpClr (ho : SV X W o so) (hbase : attributeBase o "clear" X.env (eval o X.env) = eval o X.env := by rfl) (hline : (apos.endLine == cpos.line) = true := by rfl) : SE X mk W (.Call (.Attribute o "clear" apos) [] [] cpos) (tmpClr so) := by
  refine ⟨fun ρ x ρ1 z => ?_, fun ρ cc ρ1 z => ?_⟩ <;> unfold tmpClr at z <;> split at z
  · rename_i ds q1
    cases z
    refine pe_imp (pe_bm0 PySem.F.plainAttrs_list PySem.F.slot_list_clear PySem.F.type_list_clear mt_clear (ho.ok _ _ q1) hbase hline) fun σ H Q ⟨g, Hs, T, env, k⟩ => ⟨Hs, _, env_q env, fun v Hs1 H1 fp e1 o1 n f => ?_⟩
    cases o1 with
    | lst ha da =>
      rename_i a xs
      refine ⟨.inl ⟨rfl, xs, SqL.of ha⟩, a, xs, rfl, rfl, ha, ?_⟩
      have ex := ext_tmp (xs := []) e1 (.refl e1.sub) (f a (by simp)).1 (f a (by simp)).2 ⟨_, ha⟩
      exact k _ Hs1 _ e1.data (env_push (env_ext ex env) .non)
  · cases z
  · cases z
  · cases z
/-- what a test with effects says -/
def bE (te : En → Option (Bool × En)) : En → Option Oe := fun ρ => match te ρ with
  | some (b, ρ1) => some (.ok (.da (.bool b)) ρ1)
  | none => none
end
end Cg

/-! Loops over the keys of dicts that are only read: the dict is locked meanwhile. -/
namespace Cg
open PySem L2
theorem ps_or {X : Cx} {st : Stmt} {t1 t2 : TS} (h1 : PS X st t1) (h2 : PS X st t2) : PS X st (fun D σ H => t1 D σ H ∨ t2 D σ H) := ⟨fun pins s σ H D I h => h.elim (h1.run pins s σ H D I) (h2.run pins s σ H D I)⟩
theorem way_lock {H H' : Hp} (hi : ∀ b C dx fv, H b = some (.ins C dx fv) → H' b = some (.ins C dx fv)) (hl : ∀ b xs, H b = some (.lst xs) → H' b = some (.lst xs)) (hr : ∀ b kv, Rd H b (.dK kv) → Rd H' b (.dK kv)) {v u : V} {π : List Pe} (w : Way H v π u) : Way H' v π u := by
  induction w with
  | nil => exact .nil
  | f h l _ ih => exact .f (hi _ _ _ _ h) l ih
  | k h l _ ih => exact .k (hr _ _ h) l ih
  | i h l _ ih => exact .i (hl _ _ h) l ih
section
variable {K : PySem.W.Frag} {mk : List Bool} {g : Gh} {Hs H : Hp} {T : List VR} {σ : St} {ρ : En} {a : Addr} {kv : List (Key × V)} {od : Obj}
abbrev lockG (g : Gh) (a : Addr) (od : Obj) : Gh := { g with lk := (a, od) :: g.lk }
theorem env_lock (env : EnvAt K mk g Hs H T σ ρ) (h0 : g.H0 a = some (.dK kv)) (hw : ¬ g.W a) (nl : a ∉ g.lk.map (·.1)) : EnvAt K mk (lockG g a od) Hs (upd H a (.frz od (.dK kv))) T σ ρ := by
  obtain ⟨⟨L, sl, h⟩, pk, bor, als⟩ := env
  have hH : H a = some (.dK kv) := h.keep a _ h0 hw nl
  have hn : ∀ b u, Hs b = some u → b ≠ a := fun b u e z => by
    subst z
    have := h.sub b u e
    rw [hH] at this; cases this
    exact h.nod _ _ e
  refine ⟨⟨L, sl, ?_⟩, pk, bor, fun j i π q => ?_⟩
  · obtain ⟨fp, o, n, f⟩ := h.own
    have na : ∀ b ∈ fp, b ≠ a := fun b m z => by
      subst z
      rcases (f b m).2 with q | q
      · rw [h0] at q; cases q
      · exact hw q
    refine ⟨fun b u e => ?_, h.nod, ⟨fp, ownL_mono (.refl _) o fun b m u e => ?_, n, f⟩, h.data, h.new, fun b u e w l => ?_, fun p hp => ?_⟩
    · rw [upd_ne (hn b u e)]; exact h.sub b u e
    · rw [upd_ne (na b m)]; exact e
    · have hb : b ≠ a := fun z => l (by simp [z])
      rw [upd_ne hb]
      exact h.keep b u e w fun z => l (List.mem_cons_of_mem _ z)
    · rcases List.mem_cons.mp hp with rfl | hp
      · exact ⟨kv, h0, hw, upd_same⟩
      · obtain ⟨kv', q1, q2, q3⟩ := h.keepL p hp
        have : p.1 ≠ a := fun z => nl (List.mem_map.mpr ⟨p, hp, z⟩)
        exact ⟨kv', q1, q2, by rw [upd_ne this]; exact q3⟩
  · obtain ⟨v, u, q1, q2, q3⟩ := als j i π q
    refine ⟨v, u, q1, way_lock (fun b C dx fv e => ?_) (fun b xs e => ?_) (fun b kv' e => ?_) q2, q3⟩
    · rw [upd_ne (fun z => by subst z; rw [hH] at e; cases e)]; exact e
    · rw [upd_ne (fun z => by subst z; rw [hH] at e; cases e)]; exact e
    · by_cases hb : b = a
      · subst hb
        have : kv' = kv := Rd.inj e (.inl hH)
        subst this
        exact .inr ⟨od, upd_same⟩
      · rcases e with e | ⟨o, e⟩
        · exact .inl (by rw [upd_ne hb]; exact e)
        · exact .inr ⟨o, by rw [upd_ne hb]; exact e⟩
theorem env_unlock (env : EnvAt K mk (lockG g a od) Hs H T σ ρ) (h0 : g.H0 a = some (.dK kv)) (hz : g.Hs0 a = none) (hw : ¬ g.W a) (nl : a ∉ g.lk.map (·.1)) : H a = some (.frz od (.dK kv)) ∧ EnvAt K mk g Hs (upd H a (.dK kv)) T σ ρ := by
  obtain ⟨⟨L, sl, h⟩, pk, bor, als⟩ := env
  have hH : H a = some (.frz od (.dK kv)) := by
    obtain ⟨kv', q1, q2, q3⟩ := h.keepL (a, od) (by simp)
    have : kv' = kv := by
      have := q1.symm.trans h0
      cases this; rfl
    subst this
    exact q3
  have hn : ∀ b u, Hs b = some u → b ≠ a := fun b u e z => by
    subst z
    rcases h.new b u e with q | q | q
    · exact absurd (q.symm.trans hz) (by simp)
    · exact absurd (q.symm.trans h0) (by simp)
    · exact hw q
  refine ⟨hH, ⟨L, sl, ?_⟩, pk, bor, fun j i π q => ?_⟩
  · obtain ⟨fp, o, n, f⟩ := h.own
    have na : ∀ b ∈ fp, b ≠ a := fun b m z => by
      subst z
      rcases (f b m).2 with q | q
      · exact absurd (q.symm.trans h0) (by simp)
      · exact hw q
    refine ⟨fun b u e => ?_, h.nod, ⟨fp, ownL_mono (.refl _) o fun b m u e => ?_, n, f⟩, h.data, h.new, fun b u e w l => ?_, fun p hp => ?_⟩
    · rw [upd_ne (hn b u e)]; exact h.sub b u e
    · rw [upd_ne (na b m)]; exact e
    · by_cases hb : b = a
      · subst hb
        have : u = .dK kv := by
          have := e.symm.trans h0
          cases this; rfl
        subst this
        exact upd_same
      · rw [upd_ne hb]
        exact h.keep b u e w fun z => by
          rcases List.mem_cons.mp (show b ∈ a :: g.lk.map (·.1) from z) with q | q
          · exact hb q
          · exact l q
    · obtain ⟨kv', q1, q2, q3⟩ := h.keepL p (List.mem_cons_of_mem _ hp)
      have : p.1 ≠ a := fun z => nl (List.mem_map.mpr ⟨p, hp, z⟩)
      exact ⟨kv', q1, q2, by rw [upd_ne this]; exact q3⟩
  · obtain ⟨v, u, q1, q2, q3⟩ := als j i π q
    refine ⟨v, u, q1, way_lock (fun b C dx fv e => ?_) (fun b xs e => ?_) (fun b kv' e => ?_) q2, q3⟩
    · rw [upd_ne (fun z => by subst z; rw [hH] at e; cases e)]; exact e
    · rw [upd_ne (fun z => by subst z; rw [hH] at e; cases e)]; exact e
    · by_cases hb : b = a
      · subst hb
        have : kv' = kv := Rd.inj e (.inr ⟨od, hH⟩)
        subst this
        exact .inl upd_same
      · rcases e with e | ⟨o, e⟩
        · exact .inl (by rw [upd_ne hb]; exact e)
        · exact .inr ⟨o, by rw [upd_ne hb]; exact e⟩
end
section
variable {X : Cx} {mk : List Bool} {W : WX} {a e iter : Expr} {body : List Stmt} {pos pp : Pos} {sb : FS} {sp : FP} {ρ : En}
def forK (i : Nat) (sp : FP) (b : FS) : FS := fun ρ => match sp ρ with
  | some p => (match atB ρ p with
    | some (.dct _ kvs) => (match forL i b (kvs.map fun kv => kD kv.1) ρ with
      | some (.ex _ _) => none
      | r => r)
    | _ => none)
  | none => none
theorem wk_keys {K : PySem.W.Frag} {g : Gh} {Hs : Hp} {d : Addr} {od : Obj} {kvv : List (Key × V)} {kvs : List (Key × Rs)} (hk : kvv.map (·.1) = kvs.map (·.1)) (kp : ∀ {Hs2 H2 : Hp} {M : List VR}, St9 K g Hs2 H2 M → H2 d = some (.frz od (.dK kvv))) : Wk K mk g Hs (Itk d od kvv) (kvs.map fun kv => kD kv.1) := fun Hs1 H1 σ1 ρ1 s e => by
  obtain ⟨⟨L2, _, h92⟩, _⟩ := e
  have hq := kp h92
  have dp := kD_dp (K := K) (H := Hs1) hk
  have hl := dpAll_length dp
  rw [List.length_map] at hl
  refine ⟨fun j d' hj => ⟨⟨hq, ?_⟩, fun x H3 y => ⟨y.1, ?_⟩⟩, fun j hj => ⟨hq, by omega⟩⟩
  · have := (List.getElem?_eq_some_iff.mp hj).1
    omega
  · obtain ⟨_, k, v, y2, rfl⟩ := y
    obtain ⟨v2, hv2, dv⟩ := dpAll_get dp hj
    rw [List.getElem?_map, y2] at hv2
    cases hv2
    exact dv
/-- for n in a dict that is only read -/
theorem ss_forK {i : Nat} {n : Str} (hp : PassesOwn (model X.prog X.w) X.A X.env X.xe) (hc : X.calm = true) (hN : X.N.Nodup) (hi : X.N[i]? = some n) (hx : Loc X.env.scope n) (he : SB X iter sp) (hb : SSs X mk W body sb) (hm : mk[i]? ≠ some true := by decide)
    (hs : ∀ x, foldedSetIterable iter X.env x = pure x := by intro _; rfl) (hf : X.fn n = true ∨ X.env.scope.names.lookup n = some .local := by first | exact .inl rfl | exact .inr rfl | assumption) :
    SS X mk W (.For (.Name n pp) iter body [] pos) (forK i sp sb) := fun ρ o z => by
  unfold forK at z
  split at z
  · rename_i p q
    split at z
    · rename_i l kvs q1
      split at z
      · cases z
      · rename_i hne
        have pf := ps_for (tg := .Name n pp) (pos := pos) hp hc (pi_keys (he _ _ q).2) (pg_name hN hi hx hf) (pss_some (rest := body) (mk := mk) (W := W)) hs
        refine ps_imp (ps_or pf (ps_lock pf)) fun D σ H ⟨g, Hs, env, k⟩ => ?_
        obtain ⟨r, h1, h2⟩ := atB_some q1
        obtain ⟨v, fp, hv, o0, nw⟩ := env.bor p.1 r h1
        obtain ⟨⟨L, sl, h9⟩, _⟩ := _root_.id env
        have o1 := bo_now h9 o0 nw
        obtain ⟨u, fpx, fpc, w, ox, pm, rst⟩ := own_way o1 h2
        clear rst
        cases ox with
        | dct g1 nk g2 =>
          rename_i d kvv fpd
          have hk := ownK_keys g2
          have hl : d ∈ fp := by simp [pm.mem_iff]
          obtain ⟨o2, hH0⟩ := own_there o0 d hl
          have hw := nw d hl
          have g1 : Rd H d (.dK kvv) := g1
          -- the loop, once the dict is locked
          have run : ∀ {g' : Gh} {H' : Hp} {D' : Ends} {od : Obj}, EnvAt X.K mk g' Hs H' [] σ ρ → (∀ {Hs2 H2 : Hp} {M : List VR}, St9 X.K g' Hs2 H2 M → H2 d = some (.frz od (.dK kvv))) → Way H' v p.2 (.ref d) → tPost X.K mk W o D' g' Hs →
              tFor (iKeys (tPl X.K ρ p)) (gName i) (fun D σ H => ∃ ρ o, PSs X body (tSt X.K mk W ρ o) ∧ tSt X.K mk W ρ o D σ H) D' σ H' := fun {g' H' D' od} env' kp w' k' => by
            refine ⟨Hs, _, env_q env', fun v' u' Hs1 H1 hv' e1 w1 => ?_⟩
            rw [hv] at hv'; cases hv'
            have env1 := env_ext e1 env'
            have w2 : Way H1 v p.2 (.ref d) := way_lock (fun b _ _ _ e => e1.all b _ e) (fun b _ e => e1.all b _ e) (fun b _ e => by
              rcases e with e | ⟨o, e⟩
              · exact .inl (e1.all b _ e)
              · exact .inr ⟨o, e1.all b _ e⟩) w'
            have := way_inj w1 w2
            subst this
            obtain ⟨⟨L1, _, h91⟩, _⟩ := _root_.id env1
            exact ⟨d, od, rfl, .inl ⟨kvv, kp h91, for_run (K := X.K) hb hm (wk_keys hk kp) z env1 (tPost_later e1.data k')⟩⟩
          by_cases hlk : d ∈ g.lk.map (·.1)
          · obtain ⟨pq, hpq, rfl⟩ := List.mem_map.mp hlk
            refine .inl (run (od := pq.2) env (fun {Hs2 H2 M} h => ?_) w k)
            obtain ⟨kv', c1, c2, c3⟩ := h.keepL pq hpq
            obtain ⟨kv2, d1, d2, d3⟩ := h9.keepL pq hpq
            have e1 : kv' = kv2 := by have := c1.symm.trans d1; cases this; rfl
            have e2 : kv2 = kvv := Rd.inj (.inr ⟨_, d3⟩) g1
            rw [← e2, ← e1]; exact c3
          · have hH := h9.keep d o2 hH0 hw hlk
            rcases g1 with g1 | ⟨od, g1⟩
            · have e0 : o2 = .dK kvv := by have := hH.symm.trans g1; cases this; rfl
              subst e0
              refine .inr ⟨d, .dK kvv, g1, trivial, fun od => ?_⟩
              have hz : g.Hs0 d = none := by
                cases q : g.Hs0 d with
                | none => rfl
                | some u =>
                  have a1 := h9.data d u q
                  have a2 := h9.sub d u a1
                  rw [g1] at a2; cases a2
                  exact absurd a1 (h9.nod _ _)
              have env' := env_lock (od := od) env hH0 hw hlk
              have cl : ∀ {T : List VR} {σ' : St} {Hs' H' : Hp} {ρ' : En}, EnvAt X.K mk (lockG g d od) Hs' H' T σ' ρ' → H' d = some (.frz od (.dK kvv)) ∧ EnvAt X.K mk g Hs' (upd H' d (.dK kvv)) T σ' ρ' := fun e => env_unlock e hH0 hz hw hlk
              refine run (od := od) env' (fun {Hs2 H2 M} h => ?_) ?_ ?_
              · obtain ⟨kv', c1, c2, c3⟩ := h.keepL (d, od) (by simp)
                have e1 : kv' = kvv := by have := c1.symm.trans hH0; cases this; rfl
                rw [← e1]; exact c3
              · refine way_lock (fun b C dx fv e => ?_) (fun b xs e => ?_) (fun b kv' e => ?_) w
                · rw [upd_ne (fun z => by subst z; rw [g1] at e; cases e)]; exact e
                · rw [upd_ne (fun z => by subst z; rw [g1] at e; cases e)]; exact e
                · by_cases hb : b = d
                  · subst hb
                    have : kv' = kvv := Rd.inj e (.inl g1)
                    subst this
                    exact .inr ⟨od, upd_same⟩
                  · rcases e with e | ⟨o, e⟩
                    · exact .inl (by rw [upd_ne hb]; exact e)
                    · exact .inr ⟨o, by rw [upd_ne hb]; exact e⟩
              · cases o with
                | nx ρ' => exact fun σ' Hs' H' s' e => ⟨(cl e).1, k σ' Hs' _ s' (cl e).2⟩
                | bk ρ' => exact fun σ' Hs' H' s' e => ⟨(cl e).1, k σ' Hs' _ s' (cl e).2⟩
                | ct ρ' => exact fun σ' Hs' H' s' e => ⟨(cl e).1, k σ' Hs' _ s' (cl e).2⟩
                | rt x ρ' => exact fun v' σ' Hs' H' s' e => ⟨(cl e).1, k v' σ' Hs' _ s' (cl e).2⟩
                | ex c ρ' => exact absurd z (by intro z; exact hne _ _ z)
            · have e0 : o2 = .frz od (.dK kvv) := by have := hH.symm.trans g1; cases this; rfl
              subst e0
              exact .inl (run (od := od) env (fun {Hs2 H2 M} h => h.keep d _ hH0 hw hlk) w k)
    · cases z
  · cases z
end
end Cg

/-! d.pop(k) -/
namespace Cg
open PySem L2
def dropR (k : Key) (kvs : List (Key × Rs)) : List (Key × Rs) := kvs.filter fun kv => decide (kv.1 ≠ k)
theorem ownK_drop {K : PySem.W.Frag} {m : Mo} {Hs H : Hp} {k : Key} : ∀ {kv : List (Key × V)} {ks : List (Key × Rs)} {fp : List Addr}, OwnK K m Hs H kv ks fp → ∃ fp', OwnK K m Hs H (dropK kv k) (dropR k ks) fp' ∧ fp'.Sublist fp
  | _, _, _, .nil => ⟨[], .nil, .slnil⟩
  | _, _, _, .cons (k := k') (v := v) (r := r) (fp := fp) (fps := fps) (t := t) (u := us) h ht => by
    obtain ⟨fp', o, s⟩ := ownK_drop (k := k) ht
    by_cases hk : k' = k
    · refine ⟨fp', ?_, s.trans (List.sublist_append_right _ _)⟩
      have e1 : dropK ((k', v) :: t) k = dropK t k := by simp [dropK, hk]
      have e2 : dropR k ((k', r) :: us) = dropR k us := by simp [dropR, hk]
      rw [e1, e2]; exact o
    · refine ⟨fp ++ fp', ?_, List.Sublist.append (List.Sublist.refl _) s⟩
      have e1 : dropK ((k', v) :: t) k = (k', v) :: dropK t k := by simp [dropK, hk]
      have e2 : dropR k ((k', r) :: us) = (k', r) :: dropR k us := by simp [dropR, hk]
      rw [e1, e2]; exact .cons h o
theorem dropK_nd {k : Key} {kv : List (Key × V)} (h : (kv.map (·.1)).Nodup) : ((dropK kv k).map (·.1)).Nodup := by
  unfold dropK
  exact (List.Sublist.map _ List.filter_sublist).nodup h
section
variable {X : Cx} {mk : List Bool} {W : WX} {o e : Expr} {pos apos cpos : Pos} {sp : FP} {sd : FD}
def dpopK (sp : FP) (sd : FD) : En → Option Oe := fun ρ => match sp ρ, okk (sd ρ) with
  | some p, some d => (match atP ρ p, keyD d with
    | some (.dct 0 kvs), some k => (match valR k kvs with
      | some (.da y) => some (.ok (.da y) (upS ρ p.1 p.2 (.dct 0 (dropR k kvs))))
      | _ => none)
    | _, _ => none)
  | _, _ => none
theorem se_dpopK (ho : SP X o sp) (hd : SD X W e sd) (m : M1 X o "pop" apos e cpos := by exact ⟨by rfl, by rfl, by rfl, by rfl⟩) : SE X mk W (.Call (.Attribute o "pop" apos) [e] [] cpos) (dpopK sp sd) := by
  refine ⟨fun ρ x ρ1 z => ?_, fun ρ cc ρ1 z => ?_⟩ <;> unfold dpopK at z <;> split at z
  · rename_i p d q1 q2
    split at z
    · rename_i kvs kk q3 q4
      split at z
      · rename_i y q5
        cases z
        refine pe_imp (pe_dpop1 (ho _ _ q1).2 (hd.ok _ _ (okk_some q2)) m) fun σ H Q ⟨g, Hs, T, env, k⟩ => ⟨Hs, _, env_q env, fun v u Hs1 H1 hv e1 w => ?_⟩
        have e0 := env_ext e1 env
        obtain ⟨fpx0, fpy0, ox0, oy0, nn0, cl0⟩ := env_store (env_push e0 .non) q3 hv w
        cases ox0 with
        | dct g1 nk g2 =>
          rename_i aa kvv fpF
          have g1' : H1 aa = some (.dK kvv) := g1
          refine ⟨aa, rfl, .inl ⟨kvv, .inl g1'⟩, tq_data (env_q e0) fun wk Hs2 H2 e2 dk => ?_⟩
          have g2' : OwnK X.K (.own []) Hs2 H2 kvv kvs fpF := ownK_mono e2.data g2 fun b _ u z => e2.all b u z
          obtain ⟨u, fpy1, fpc, hu, oy, pm1, cl1⟩ := ownK_foc g2' q5
          cases oy with
          | da dy =>
            obtain ⟨fpx, fpy, ox, oy2, nn, close⟩ := env_store (env_push (env_ext e2 e0) dy) q3 hv (way_mono e2.all w)
            cases ox with
            | dct c1 cn c2 =>
              rename_i kvv2 fpF2
              have c1' : H2 aa = some (.dK kvv2) := c1
              have : kvv2 = kvv := by have := c1'.symm.trans (e2.all aa _ g1'); cases this; rfl
              subst this
              refine ⟨kvv2, kk, u, c1', keyD_dp dk q4, hu, k u Hs2 _ (e1.data.trans e2.data) ?_⟩
              obtain ⟨fp', od, sl⟩ := ownK_drop (k := kk) c2
              have nn' : (aa :: fpF2).Nodup := (List.nodup_append.mp nn).1
              obtain ⟨na1, nF⟩ := List.nodup_cons.mp nn'
              have od' : OwnK X.K (.own []) Hs2 (upd H2 aa (.dK (dropK kvv2 kk))) (dropK kvv2 kk) (dropR kk kvs) fp' := ownK_mono (.refl _) od fun b m u z => by
                rw [upd_ne (fun q => na1 (by rw [← q]; exact sl.subset m))]; exact z
              have := close aa (.dK (dropK kvv2 kk)) (.dct 0 (dropR kk kvs)) ((aa :: fp') ++ ([] ++ [])) [(u, .da y)] rfl (by simp) (.cons (.dct (n := 0) (show upd H2 aa _ aa = _ from upd_same) (dropK_nd cn) od') (.cons (.da dy) .nil)) (by
                simp only [List.append_nil]
                exact List.nodup_cons.mpr ⟨fun m => na1 (sl.subset m), sl.nodup nF⟩) (fun b m => by
                simp only [List.append_nil] at m
                rcases List.mem_cons.mp m with rfl | m
                · simp
                · have := sl.subset m; simp [this])
              simpa using this
      · cases z
    · cases z
  · cases z
  · split at z
    · split at z <;> cases z
    · cases z
  · cases z
end
end Cg

/-! (e) is None as a value, e with effects -/
namespace Cg
open PySem L2
section
variable {X : Cx} {mk : List Bool} {W : WX} {a : Expr} {pos pp : Pos} {se : En → Option Oe}
theorem se_isN {j} (h : SE X mk W a se) : SE X mk W (.Compare a [.Is] [.Constant .none j pp] pos) (bE (isNE se)) := by
  refine ⟨fun ρ x ρ1 z => ?_, fun ρ cc ρ1 z => ?_⟩
  · unfold bE at z
    split at z
    · rename_i b ρ2 q
      cases z
      unfold isNE at q
      split at q
      · rename_i y ρ3 q1
        obtain ⟨b', q2, q3⟩ := map_some q
        cases q3
        refine pe_imp (pe_cmp (pc_isN (h.ok _ _ _ q1)) rfl) fun σ H Q ⟨g, Hs, T, env, k⟩ => ⟨g, Hs, T, env, fun v Hs1 H1 s1 e1 => ?_⟩
        obtain ⟨fp, o⟩ := own_any e1
        have := k (.bl b) Hs1 H1 s1 (env_push (env_pop e1) (.bl b))
        first
          | exact (by rw [isNR_r q2 o]; exact this)
          | exact ⟨_, rfl, by rw [isNR_r q2 o]; exact this⟩
      · cases q
    · cases z
  · unfold bE at z
    split at z <;> cases z
end
end Cg

/-! A thing of one's own is only read for a while. -/
namespace Cg
open PySem L2
def cl0 : Sv → Sv
  | .bo _ => .un
  | s => s
def cl1 (p : Bool) (s : Sv) : Sv → Sv
  | .bo _ => (match p, s with
    | true, .bo r => .bo r
    | _, _ => .un)
  | s => s
def cln : List Bool → En → En → En
  | p :: ps, s :: ρ, s' :: ρ' => cl1 p s s' :: cln ps ρ ρ'
  | _, _, ρ' => ρ'.map cl0
theorem sl_cl0 : ∀ {σ : St} {ρ : En} {L : List VR}, Sl σ ρ L → Sl σ (ρ.map cl0) L
  | _, _, _, .nil => .nil
  | _, _, _, .un h => .un (sl_cl0 h)
  | _, _, _, .bo h => .un (sl_cl0 h)
  | _, _, _, .al h => .al (sl_cl0 h)
  | _, _, _, .ow h => .ow (sl_cl0 h)
theorem sl_cln : ∀ {σ : St} {ρ' : En} {L : List VR} (ps : List Bool) (ρ : En), Sl σ ρ' L → Sl σ (cln ps ρ ρ') L
  | _, _, _, [], _, h => by cases h <;> first | exact .nil | exact sl_cl0 (by constructor; assumption)
  | _, _, _, _ :: _, [], h => by cases h <;> first | exact .nil | exact sl_cl0 (by constructor; assumption)
  | _, _, _, _ :: _, _ :: _, .nil => .nil
  | _, _, _, p :: ps, s :: ρ, .un h => .un (sl_cln ps ρ h)
  | _, _, _, p :: ps, s :: ρ, .bo h => by
    show Sl _ (cl1 p s (.bo _) :: _) _
    cases p <;> cases s <;> first | exact .un (sl_cln ps ρ h) | exact .bo (sl_cln ps ρ h)
  | _, _, _, p :: ps, s :: ρ, .al h => .al (sl_cln ps ρ h)
  | _, _, _, p :: ps, s :: ρ, .ow h => .ow (sl_cln ps ρ h)
theorem cl0_bo {ρ : En} {i : Nat} {r : Rs} (h : (ρ.map cl0)[i]? = some (.bo r)) : False := by
  rw [List.getElem?_map] at h
  cases q : ρ[i]? with
  | none => rw [q] at h; cases h
  | some s => rw [q] at h; cases s <;> simp [cl0] at h
theorem cl0_al {ρ : En} {i k : Nat} {π : List Pe} (h : (ρ.map cl0)[i]? = some (.al k π)) : ρ[i]? = some (.al k π) := by
  rw [List.getElem?_map] at h
  cases q : ρ[i]? with
  | none => rw [q] at h; cases h
  | some s => rw [q] at h; cases s <;> simp [cl0] at h ⊢; exact h
theorem cln_bo : ∀ {ps : List Bool} {ρ ρ' : En} {i : Nat} {r : Rs}, (cln ps ρ ρ')[i]? = some (.bo r) → ps[i]? = some true ∧ ρ[i]? = some (.bo r)
  | [], _, _, _, _, h => by unfold cln at h; exact (cl0_bo h).elim
  | _ :: _, [], _, _, _, h => by unfold cln at h; exact (cl0_bo h).elim
  | _ :: _, _ :: _, [], _, _, h => by unfold cln at h; exact (cl0_bo h).elim
  | p :: ps, s :: ρ, s' :: ρ', 0, r, h => by
    unfold cln at h
    simp only [List.getElem?_cons_zero, Option.some.injEq] at h
    cases s' <;> simp only [cl1] at h <;> try cases h
    cases p <;> cases s <;> simp at h
    subst h
    exact ⟨rfl, rfl⟩
  | p :: ps, s :: ρ, s' :: ρ', i + 1, r, h => by
    unfold cln at h
    simp only [List.getElem?_cons_succ] at h ⊢
    exact cln_bo h
theorem cln_al : ∀ {ps : List Bool} {ρ ρ' : En} {i k : Nat} {π : List Pe}, (cln ps ρ ρ')[i]? = some (.al k π) → ρ'[i]? = some (.al k π)
  | [], _, _, _, _, _, h => by unfold cln at h; exact cl0_al h
  | _ :: _, [], _, _, _, _, h => by unfold cln at h; exact cl0_al h
  | _ :: _, _ :: _, [], _, _, _, h => by unfold cln at h; exact cl0_al h
  | p :: ps, s :: ρ, s' :: ρ', 0, k, π, h => by
    unfold cln at h
    simp only [List.getElem?_cons_zero, Option.some.injEq] at h ⊢
    cases s' <;> simp only [cl1] at h <;> try exact h
    cases p <;> cases s <;> simp at h
  | p :: ps, s :: ρ, s' :: ρ', i + 1, k, π, h => by
    unfold cln at h
    simp only [List.getElem?_cons_succ] at h ⊢
    exact cln_al h
theorem cln_len : ∀ {ps : List Bool} {ρ ρ' : En}, (cln ps ρ ρ').length = ρ'.length
  | [], _, _ => by unfold cln; simp
  | _ :: _, [], _ => by unfold cln; simp
  | _ :: _, _ :: _, [] => by unfold cln; simp
  | _ :: ps, _ :: ρ, _ :: ρ' => by unfold cln; simp [cln_len (ps := ps)]
section
variable {K : PySem.W.Frag} {mk mk' : List Bool} {g : Gh} {Hs H : Hp} {σ : St} {ρ : En} {j : Nat} {r : Rs}
/-- slot j is only read from here on, and comes back -/
theorem env_frame (env : EnvAt K mk g Hs H [] σ ρ) (hj : ρ[j]? = some (.ow r)) (hm : ∀ i, i < mk.length → mk[i]? = some true → mk'[i]? = some true) (hmj : mk[j]? ≠ some true) (hmj' : mk'[j]? = some true) :
    ∃ g' : Gh, EnvAt K mk' g' Hs H [] σ (ρ.set j (.bo r)) ∧ ∀ {T : List VR} {σ' : St} {Hs' H' : Hp} {ρ' : En}, Same Hs Hs' → j < ρ'.length → EnvAt K mk' g' Hs' H' T σ' ρ' → EnvAt K mk g Hs' H' T σ' (put (cln mk' ρ ρ') j (.ow r)) := by
  obtain ⟨v, hv, e1⟩ := env_mv env hj
  obtain ⟨⟨L, sl, h⟩, pk, bor, als⟩ := e1
  have hj' := (List.getElem?_eq_some_iff.mp hj).1
  have h1 := st_front h
  rw [List.append_nil] at h1
  obtain ⟨fp, ow, n, f⟩ := h1.own
  cases ow with
  | cons o t =>
    rename_i fj fr
    have nd := List.nodup_append.mp n
    refine ⟨⟨Hs, H, fun a => (g.W a ∨ g.H0 a = none) ∧ a ∉ fj, fun i => σ[i]?.join, [], []⟩, ⟨⟨L, ?_, ?_⟩, fun i v' _ q => ?_, fun i r' q => ?_, fun a b π q => ?_⟩, fun {T σ' Hs' H' ρ'} s hl e => ?_⟩
    · obtain ⟨L0, Lx, a, b⟩ := sl_setN (s := some v) (z := .bo r) trivial j sl (by simpa using hj')
      rw [List.set_set, set_sameV hv] at a
      have q := sl_get env.st.choose_spec.1 hj
      have : ∀ {σ : St} {ρ : En} {L : List VR} {j : Nat}, Sl σ (ρ.set j .un) L → Sl σ (ρ.set j (.bo r)) L := fun {σ ρ L j} z => by
        induction ρ generalizing σ L j with
        | nil => exact z
        | cons s ρ ih =>
          cases j with
          | zero => cases z with | un z => exact .bo z
          | succ j =>
            cases z with
            | un z => exact .un (ih z)
            | bo z => exact .bo (ih z)
            | al z => exact .al (ih z)
            | ow z => exact .ow (ih z)
      exact this sl
    · rw [List.append_nil]
      refine ⟨h.sub, h.nod, ⟨fr, t, nd.2.1, fun a m => ⟨(f a (by simp [m])).1, .inr ⟨?_, fun z => nd.2.2 a z a m rfl⟩⟩⟩, .refl _, fun a u z => .inl z, fun a u z _ _ => z, fun p hp => by simp at hp⟩
      exact (f a (by simp [m])).2.elim .inr .inl
    · cases q2 : σ[i]? with
      | none => simp [q2] at q
      | some x => simp [q2] at q; rw [q]
    · by_cases hij : j = i
      · subst hij
        rw [List.getElem?_set_self hj'] at q
        cases q
        exact ⟨v, fj, hv, own_rd o, fun a m z => z.2 m⟩
      · rw [List.getElem?_set_ne hij] at q
        obtain ⟨v', fp', q1, q2, q3⟩ := env.bor i r' q
        refine ⟨v', fp', q1, bo_now h q2 q3, fun a m z => ?_⟩
        obtain ⟨u, hu⟩ := own_there q2 a m
        rcases z.1 with z | z
        · exact q3 a m z
        · rw [z] at hu; cases hu
    · by_cases hij : j = a
      · subst hij
        rw [List.getElem?_set_self hj'] at q
        cases q
      · rw [List.getElem?_set_ne hij] at q
        exact env.als a b π q
    · obtain ⟨⟨L', sl', h'⟩, pk', bor', als'⟩ := e
      have pin : ∀ i v, mk'[i]? = some true → σ[i]? = some (some v) → σ'[i]? = some (some v) := fun i v a b => pk' i v a (by simp [b])
      have hv' := pin j v hmj' hv
      have kp : ∀ a u, H a = some u → (a ∈ fj ∨ (¬ g.W a ∧ g.H0 a ≠ none)) → H' a = some u := fun a u e1 e2 => h'.keep a u e1 (fun z => by
        rcases e2 with e2 | e2
        · exact z.2 e2
        · exact z.1.elim e2.1 e2.2) (by simp)
      have e2 : EnvAt K mk g Hs' H' ((v, r) :: T) σ' (cln mk' ρ ρ') := by
        refine ⟨⟨L', sl_cln _ _ sl', st_back ?_⟩, fun i v' a b => pin i v' (hm i (List.getElem?_eq_some_iff.mp a).1 a) (env.pk i v' a b), fun i r' q => ?_, fun a b π q => als' a b π (cln_al q)⟩
        · obtain ⟨fp', o', n', f'⟩ := h'.own
          have fo : ∀ a ∈ fj, ∃ u, H a = some u := fun a m => own_there o a m
          refine ⟨h'.sub, h'.nod, ⟨fj ++ fp', .cons (own_mono s o fun a m u z => kp a u z (.inl m)) o', List.nodup_append.mpr ⟨nd.1, n', fun a m b m' z => ?_⟩, fun a m => ?_⟩, h.data.trans s, fun a u z => ?_, fun a u z w l => kp a u (h.keep a u z w l) (.inr ⟨w, by simp [z]⟩), fun p hp => ?_⟩
          · subst z
            obtain ⟨u, hu⟩ := fo a m
            rcases (f' a m').2 with z | z
            · exact absurd (z.symm.trans hu) (by simp)
            · exact z.2 m
          · rcases List.mem_append.mp m with m | m
            · refine ⟨?_, (f a (by simp [m])).2⟩
              cases q : Hs' a with
              | none => rfl
              | some u =>
                obtain ⟨u', hu⟩ := fo a m
                rcases h'.new a u q with z | z | z
                · have := (f a (by simp [m])).1
                  exact absurd (z.symm.trans this) (by simp)
                · exact absurd (z.symm.trans hu) (by simp)
                · exact absurd m z.2
            · refine ⟨(f' a m).1, ?_⟩
              rcases (f' a m).2 with z | z
              · exact h.free z
              · exact z.1.symm
          · rcases h'.new a u z with z | z | z
            · exact h.new a u z
            · exact .inr (h.free z)
            · exact .inr z.1.symm
          · obtain ⟨kv, a, b, c⟩ := h.keepL p hp
            exact ⟨kv, a, b, kp _ _ c (.inr ⟨b, by simp [a]⟩)⟩
        · obtain ⟨q1, q2⟩ := cln_bo q
          obtain ⟨v', fp', a, b, c⟩ := env.bor i r' q2
          exact ⟨v', fp', pin i v' q1 a, b, c⟩
      have e3 := env_set e2 (by rw [cln_len]; exact hl) hmj
      rw [set_sameV hv'] at e3
      exact e3
end
section
variable {X : Cx} {mk mk' : List Bool} {W : WX} {st : Stmt} {sb : FS}
def bkO (mk' : List Bool) (j : Nat) (r : Rs) (ρ : En) : Out → Option Out
  | .nx ρ' => if j < ρ'.length then some (.nx (put (cln mk' ρ ρ') j (.ow r))) else none
  | .bk ρ' => if j < ρ'.length then some (.bk (put (cln mk' ρ ρ') j (.ow r))) else none
  | .ct ρ' => if j < ρ'.length then some (.ct (put (cln mk' ρ ρ') j (.ow r))) else none
  | .rt x ρ' => if j < ρ'.length then some (.rt x (put (cln mk' ρ ρ') j (.ow r))) else none
  | .ex c ρ' => if j < ρ'.length then some (.ex c (put (cln mk' ρ ρ') j (.ow r))) else none
/-- slot j is only read meanwhile -/
def brS (mk' : List Bool) (j : Nat) (b : FS) : FS := fun ρ => match ρ[j]? with
  | some (.ow r) => (match b (ρ.set j (.bo r)) with
    | some o => bkO mk' j r ρ o
    | none => none)
  | _ => none
theorem ss_br {j : Nat} (hb : SS X mk' W st sb) (hm : ∀ i, i < mk.length → mk[i]? = some true → mk'[i]? = some true := by decide) (hmj : mk[j]? ≠ some true := by decide) (hmj' : mk'[j]? = some true := by decide) : SS X mk W st (brS mk' j sb) := fun ρ o z => by
  unfold brS at z
  split at z
  · rename_i r q
    split at z
    · rename_i o' q1
      refine ps_imp (hb _ _ q1) fun D σ H ⟨g, Hs, env, k⟩ => ?_
      obtain ⟨g', e1, bk⟩ := env_frame env q hm hmj hmj'
      refine ⟨g', Hs, e1, ?_⟩
      cases o' with
      | nx ρ' =>
        simp only [bkO] at z
        split at z
        · rename_i hl
          cases z
          exact fun σ' Hs' H' s e => k σ' Hs' H' s (bk s hl e)
        · cases z
      | bk ρ' =>
        simp only [bkO] at z
        split at z
        · rename_i hl
          cases z
          exact fun σ' Hs' H' s e => k σ' Hs' H' s (bk s hl e)
        · cases z
      | ct ρ' =>
        simp only [bkO] at z
        split at z
        · rename_i hl
          cases z
          exact fun σ' Hs' H' s e => k σ' Hs' H' s (bk s hl e)
        · cases z
      | rt x ρ' =>
        simp only [bkO] at z
        split at z
        · rename_i hl
          cases z
          exact fun v σ' Hs' H' s e => k v σ' Hs' H' s (bk s hl e)
        · cases z
      | ex c ρ' =>
        simp only [bkO] at z
        split at z
        · rename_i hl
          cases z
          exact fun σ' Hs' H' s e => k σ' Hs' H' s (bk s hl e)
        · cases z
    · cases z
  · cases z
end
end Cg

/-! Defs that tell a part of what they are handed. -/
namespace Cg
open PySem L2
inductive Rw where
  | at (i : Nat) (π : List Pe) | ex (c : Str)
def spW (K : PySem.W.Frag) (F : List Rs → Option Rw) : Sp := fun vs H Q E => ∃ Hs as o, Same Hs H ∧ NoD Hs ∧ OwnQ K Hs H (fun _ => False) vs as ∧ F as = some o ∧ match o with
  | .at i π => ∀ v u Hs' H', vs[i]? = some v → Ext Hs H Hs' H' → Way H' v π u → Q u H'
  | .ex c => ∀ Hs' H', Ext Hs H Hs' H' → E (clsV K c) none H'
def FqW (P : Program) (w : World) (K : PySem.W.Frag) (mg : Str → Option Value) (base : Heap) (f : Addr) (k : Nat) (F : List Rs → Option Rw) : Prop := ∃ fd ps, Binds K fd ps [] ∧ FnOk P w K mg base (L2.CX P w) k f fd ps (spW K F)
theorem ownQ_any {K : PySem.W.Frag} {Hs H : Hp} {av av' : Addr → Prop} (h : ∀ a, av' a → av a) : ∀ {vs : List V} {rs : List Rs}, OwnQ K Hs H av vs rs → OwnQ K Hs H av' vs rs
  | _, _, .nil => .nil
  | _, _, .cons o n t => .cons o (fun a m z => n a m (h a z)) (ownQ_any h t)
def bodyW (ar n : Nat) (s : FS) (sp : FP) (as : List Rs) : Option Rw := if as.length = ar then match s (startE [] as ++ List.replicate (n - as.length) .un) with
  | some (.nx ρ) => (match sp ρ with
    | some p => if p.1 < as.length then some (.at p.1 p.2) else none
    | none => none)
  | some (.ex c _) => some (.ex c)
  | _ => none
  else none
section
variable {P : Program} {w : World} {K : PySem.W.Frag} {mg : Str → Option Value} {base : Heap}
theorem fqW_of {x qual : Str} {params : Arguments} {st : Stmt} {e : Expr} {pos : Pos} {scope : Scope} {f : Addr} {fd : FuncData} {N ps : List Str} {k : Nat} {mk : List Bool} {s : FS} {sp : FP} (F : FunD K x qual params [st, .Return (some e) pos] scope [] [] f fd) (S : FnScope N ps scope)
    (hb : ∀ (kV doc pm : Value) (an : Option Addr) (cdv ct : Value) (us : List Value), us.length = ps.length → bindArgs (PySem.W.fnOf x qual params [st, .Return (some e) pos] scope .none kV doc pm an cdv ct) ⟨us, []⟩ = pure (ps.zip us))
    (hmk : ∀ i, i < ps.length → mk[i]? = some true)
    (h1 : ∀ (cdv : Value) (A : Around) (outer : List Env) (s0 : Shared) (H : Hp) (E : XK), Room k (A.deeper (PyProof.Rows.envOfC qual scope s0.heap.objs.size f cdv)) → SS (cxD P w K mg base N qual scope f cdv A outer s0 H E) mk (WD E) st s)
    (h2 : ∀ (cdv : Value) (A : Around) (outer : List Env) (s0 : Shared) (H : Hp) (E : XK), Room k (A.deeper (PyProof.Rows.envOfC qual scope s0.heap.objs.size f cdv)) → SB (cxD P w K mg base N qual scope f cdv A outer s0 H E) e sp) :
    FqW P w K mg base f (k + 1) (bodyW ps.length N.length s sp) := by
  refine ⟨fd, ps, F.bindsN hb, ?_⟩
  have hn : ∀ as o, bodyW ps.length N.length s sp as = some o → as.length = ps.length := fun as o h => by
    unfold bodyW at h
    split at h
    · assumption
    · cases h
  refine F.ok S (fun vs H Q E ⟨Hs, as, o, _, _, oq, hF, _⟩ => (ownQ_len oq).trans (hn as o hF)) fun cdv A outer s0 H vs Q E hr ⟨Hs, as, o, s1, nd, oq, hF, post⟩ => ?_
  have hl := ownQ_len oq
  have env : EnvAt K mk ⟨Hs, H, (fun _ => False), fun i => vs[i]?, [], []⟩ Hs H [] (start N vs) (startE [] as ++ List.replicate (N.length - as.length) .un) := by
    refine ⟨⟨sel [] (vs.zip as), ?_, ?_⟩, fun i v h1 h2 => ?_, fun i r h => ?_, fun j i π h => ?_⟩
    · unfold L2.start
      rw [hl]
      exact sl_start (sl_un0 _) [] vs as hl
    · rw [List.append_nil, sel_nil]
      exact ⟨s1, nd, ⟨[], .nil, by simp, fun a m => by simp at m⟩, .refl _, fun _ _ e => .inl e, fun _ _ e _ _ => e, fun p hp => absurd hp (by simp)⟩
    · unfold L2.start
      have hv := (List.getElem?_eq_some_iff.mp (show vs[i]? = some v from h2)).1
      rw [List.getElem?_append_left (by simpa using hv), List.getElem?_map, show vs[i]? = some v from h2]
      rfl
    · obtain ⟨h1, h2⟩ := startE_bo (fun s m => (List.mem_replicate.mp m).2) h
      have hi : i < vs.length := by rw [hl]; exact (List.getElem?_eq_some_iff.mp h2).1
      obtain ⟨fq, o, av⟩ := ownQ_get oq (List.getElem?_eq_getElem hi) h2
      refine ⟨vs[i], fq, ?_, o, av⟩
      unfold L2.start
      rw [List.getElem?_append_left (by simpa using hi), List.getElem?_map, List.getElem?_eq_getElem hi]
      rfl
    · exact absurd rfl (startE_al (fun s m => (List.mem_replicate.mp m).2) (List.mem_of_getElem? h) i π)
  have ext : ∀ {Hs' H' : Hp} {σ' : St} {ρ' : En}, EnvAt K mk ⟨Hs, H, (fun _ => False), fun i => vs[i]?, [], []⟩ Hs' H' [] σ' ρ' → Ext Hs H Hs' H' := fun {Hs' H' σ' ρ'} e => by
    obtain ⟨⟨L, _, h⟩, _⟩ := e
    exact ⟨h.data, fun a o e => h.keep a o e (fun z => z) (by simp), h.sub, fun a o e => by
      rcases h.new a o e with z | z | z
      · exact .inl z
      · exact .inr ⟨z, fun kv q => by subst q; exact h.nod a kv e⟩
      · exact z.elim⟩
  have hF' := hF
  unfold bodyW at hF'
  rw [if_pos (hn as o hF)] at hF'
  split at hF'
  · rename_i ρ' q
    split at hF'
    · rename_i p qp
      split at hF'
      · rename_i hp
        cases hF'
        refine ⟨_, pss_cons (h1 cdv A outer s0 H E hr _ _ q) (pss_one (ps_ret (h2 cdv A outer s0 H E hr _ _ qp).2)), _, Hs, env, fun σ' Hs' H' s' e' => ⟨Hs', _, env_q e', fun v u Hs2 H2 hv e2 w => ?_⟩⟩
        have hp' : p.1 < vs.length := by rw [hl]; exact hp
        have hv0 := e'.pk p.1 vs[p.1] (hmk p.1 (by rw [← hn as _ hF]; exact hp)) (List.getElem?_eq_getElem hp')
        rw [hv] at hv0
        have hv1 : v = vs[p.1] := by cases hv0; rfl
        exact post v u Hs2 H2 (by rw [hv1]; exact List.getElem?_eq_getElem hp') ((ext e').trans e2) w
      · cases hF'
    · cases hF'
  · rename_i c ρ' q
    cases hF'
    exact ⟨_, pss_cons (h1 cdv A outer s0 H E hr _ _ q) (pss_never (sts := [.Return (some e) pos])), _, Hs, env, fun σ' Hs' H' s' e' => post Hs' H' (ext e')⟩
  · cases hF'
end
structure SBx (X : Cx) (W : WX) (e : Expr) (s : En → Option (Rz (Nat × List Pe))) : Prop where
  ok : ∀ ρ p, s ρ = some (.ok p) → (∃ x, atB ρ p = some x) ∧ PE X e (tPl X.K ρ p)
  ex : ∀ ρ c, s ρ = some (.ex c) → PE X e (tX X.K W ρ c)
section
variable {X : Cx} {mk : List Bool} {W : WX} {a b e o iter : Expr} {es : List Expr} {body : List Stmt} {pos pp apos : Pos} {sb : FS} {sp : FP} {sd : FD} {ss : En → Option (Rz (List Rs))} {ρ : En} {sx : En → Option (Rz (Nat × List Pe))}
def subB (sp : FP) (sd : FD) : FP := fun ρ => match sp ρ, okk (sd ρ) with
  | some p, some d => (match atB ρ p with
    | some (.dct _ kvs) => (match keyD d with
      | some k => if (valR k kvs).isSome then some (p.1, p.2 ++ [.k k]) else none
      | none => none)
    | _ => none)
  | _, _ => none
theorem sb_sub {k : Nat} (hr : Room k X.A) (h : SB X a sp) (hd : SD X W b sd) (hs : PlainIx b := by exact (fun _ _ => rfl)) : SB X (.Subscript a b pos) (subB sp sd) := fun ρ p z => by
  unfold subB at z
  split at z
  · rename_i p0 d q qd
    have hdd := hd.ok _ _ (okk_some qd)
    split at z
    · rename_i n kvs q1
      split at z
      · rename_i kk hk
        split at z
        · rename_i hf
          obtain ⟨y, hy⟩ := Option.isSome_iff_exists.mp hf
          cases z
          obtain ⟨r, h1, h2⟩ := atB_some q1
          refine ⟨⟨y, ?_⟩, pe_imp (pe_dget (hu_of hr) (h _ _ q).2 hdd hs) fun σ H Q ⟨Hs, av, env, k⟩ => ⟨Hs, av, env, fun v u Hs1 H1 hv e1 w => tq_data (envQ_ext e1 env) fun w' Hs2 H2 e2 dw => ?_⟩⟩
          · show (match ρ[p0.1]? with
              | some (.bo r) => getP r (p0.2 ++ [.k kk])
              | _ => none) = some y
            rw [h1]
            show getP r _ = _
            simp only [getP_app h2, getP, hy]
          · have w2 := way_mono e2.all w
            obtain ⟨fp, o⟩ := place_ownB (envQ_ext (e1.trans e2) env) q1 hv w2
            cases o with
            | dct g1 nk g2 =>
              obtain ⟨u', fpx, fpc, l, o, pm, _⟩ := ownK_foc g2 hy
              exact ⟨_, u', rfl, .inl ⟨_, kk, dctAt_rd g1, keyD_dp dw hk, l.symm⟩, k v u' Hs2 H2 hv (e1.trans e2) (way_app w2 (.k (dctAt_rd g1) l .nil))⟩
        · cases z
      · cases z
    · cases z
  · cases z
/-- o.m(e, ..), which tells a part of o -/
def methW (cn m : Str) (F : List Rs → Option Rw) (sp : FP) (ss : En → Option (Rz (List Rs))) : En → Option (Rz (Nat × List Pe)) := fun ρ => match sp ρ with
  | some p => (match atB ρ p with
    | some r => if isC cn m r then bnz (ss ρ) fun rs => (match F (r :: rs) with
      | some (.at 0 π) => if (getP r π).isSome then some (.ok (p.1, p.2 ++ π)) else none
      | some (.ex c) => some (.ex c)
      | _ => none) else none
    | none => none)
  | none => none
theorem sbx_meth {cn m : Str} {j k : Nat} {F : List Rs → Option Rw} {pl : Sem Bool} (G : FqW X.prog X.w X.K X.mg X.base (He.ma X.K (He.ga X.K cn) m) j F) (cl : Cls X.K (He.ga X.K cn)) (hm : Meth X.K (He.ga X.K cn) m (He.ma X.K (He.ga X.K cn) m)) (hr : Room k X.A) (tk : Takes X W) (ho : SB X o sp) (ha : SAs X W (e :: es) ss) (hj : j ≤ k := by decide)
    (hst : starEach (e :: es) X.env = (false, eval e X.env) :: starEach es X.env := by rfl) (hpl : (backTo pos (starEach es X.env)).any (·.1) = false := by rfl)
    (ht : eval (.Call (.Attribute o m apos) (e :: es) [] pos) X.env = (do
        let ov ← eval o X.env
        standAt apos.atName
        let (g, fst) ← holding [ov] (getMethod ov m pl)
        callWith pos g fst (backTo pos (starEach (e :: es) X.env)) (backToKw pos (keywordEach [] X.env))) := by rfl) :
    SBx X W (.Call (.Attribute o m apos) (e :: es) [] pos) (methW cn m F sp ss) := by
  obtain ⟨fd, ps, hb, G⟩ := G
  refine ⟨fun ρ x z => ?_, fun ρ cc z => ?_⟩ <;> unfold methW at z <;> split at z
  · rename_i p q1
    split at z
    · rename_i r q2
      split at z
      · rename_i hc
        obtain ⟨rs, q3, z⟩ := bnz_ok z
        split at z
        · rename_i π q4
          split at z
          · rename_i hg
            cases z
            obtain ⟨y, hy⟩ := Option.isSome_iff_exists.mp hg
            obtain ⟨r0, g1, g2⟩ := atB_some q2
            refine ⟨⟨y, ?_⟩, pe_imp (pe_methW (ho _ _ q1).2 cl hm G (hr.mono hj) hb (fun σ => passAt tk σ) (ha.ok _ _ q3) hst hpl ht) fun σ H Q ⟨Hs, av, env, k⟩ => ⟨Hs, av, env, fun v u Hs1 H1 hv e1 w => ?_⟩⟩
            · show (match ρ[p.1]? with
                | some (.bo r) => getP r (p.2 ++ π)
                | _ => none) = some y
              rw [g1]
              show getP r0 _ = _
              rw [getP_app g2]
              exact hy
            · obtain ⟨fp, o1⟩ := place_ownB (envQ_ext e1 env) q2 hv w
              obtain ⟨a, dx, fs, rfl, h1, h2⟩ := isC_own hc o1
              refine ⟨a, dx, fs, rfl, h1, h2, Hs1, av, envQ_ext e1 env, fun vs Hs2 H2 e2 os => ⟨Hs2, r :: rs, _, e2.sub, (e1.trans e2).noD env.nod, .cons (own_mono' e2.data e2.all o1) (fun _ _ z => z) (ownQ_any (fun _ z => z.elim) os), q4, fun v' u' Hs3 H3 hv' e3 w' => ?_⟩⟩
              simp only [List.getElem?_cons_zero, Option.some.injEq] at hv'
              subst hv'
              exact k v u' Hs3 H3 hv ((e1.trans e2).trans e3) (way_app (way_mono e3.all (way_mono e2.all w)) w')
          · cases z
        · cases z
        · cases z
      · cases z
    · cases z
  · cases z
  · rename_i p q1
    split at z
    · rename_i r q2
      split at z
      · rename_i hc
        rcases bnz_ex z with q3 | ⟨rs, q3, z⟩
        · refine pe_imp (pe_methW (ho _ _ q1).2 cl hm G (hr.mono hj) hb (fun σ => passAt tk σ) (ha.ex _ _ q3) hst hpl ht) fun σ H Q ⟨Hs, av, env, k⟩ => ⟨Hs, av, env, fun v u Hs1 H1 hv e1 w => ?_⟩
          obtain ⟨fp, o1⟩ := place_ownB (envQ_ext e1 env) q2 hv w
          obtain ⟨a, dx, fs, rfl, h1, h2⟩ := isC_own hc o1
          exact ⟨a, dx, fs, rfl, h1, h2, Hs1, av, envQ_ext e1 env, fun Hs' H' e' => k Hs' H' (e1.trans e')⟩
        · split at z
          · split at z <;> cases z
          · rename_i q4
            cases z
            refine pe_imp (pe_methW (ho _ _ q1).2 cl hm G (hr.mono hj) hb (fun σ => passAt tk σ) (ha.ok _ _ q3) hst hpl ht) fun σ H Q ⟨Hs, av, env, k⟩ => ⟨Hs, av, env, fun v u Hs1 H1 hv e1 w => ?_⟩
            obtain ⟨fp, o1⟩ := place_ownB (envQ_ext e1 env) q2 hv w
            obtain ⟨a, dx, fs, rfl, h1, h2⟩ := isC_own hc o1
            exact ⟨a, dx, fs, rfl, h1, h2, Hs1, av, envQ_ext e1 env, fun vs Hs2 H2 e2 os => ⟨Hs2, r :: rs, _, e2.sub, (e1.trans e2).noD env.nod, .cons (own_mono' e2.data e2.all o1) (fun _ _ z => z) (ownQ_any (fun _ z => z.elim) os), q4, fun Hs3 H3 e3 => k Hs3 H3 ((e1.trans e2).trans e3)⟩⟩
          · cases z
      · cases z
    · cases z
  · cases z
/-- the part, read -/
def rdB (sx : En → Option (Rz (Nat × List Pe))) : FE := fun ρ => match sx ρ with
  | some (.ok p) => (atB ρ p).map .ok
  | some (.ex c) => some (.ex c)
  | none => none
theorem sa_bx (h : SBx X W e sx) : SA X W e (rdB sx) := by
  refine ⟨fun ρ x z => ?_, fun ρ cc z => ?_⟩ <;> unfold rdB at z <;> split at z
  · rename_i p q
    obtain ⟨y, q2, z⟩ := map_some z
    cases z
    refine pe_imp (h.ok _ _ q).2 fun σ H Q ⟨Hs, av, env, k⟩ => ⟨Hs, av, env, fun v u Hs1 H1 hv e1 w => ?_⟩
    obtain ⟨r, h1, h2⟩ := atB_some q2
    obtain ⟨v', fp, a, o, n⟩ := envQ_tree (envQ_ext e1 env) (show trOf ρ p.1 = some r by unfold trOf; rw [h1])
    rw [hv] at a; cases a
    obtain ⟨u', fpx, fpc, w', ox, pm, _⟩ := own_way o h2
    have := way_inj w w'
    subst this
    exact k u Hs1 H1 fpx e1 ox fun a m => n a (pm.mem_iff.mpr (List.mem_append_left _ m))
  · cases z
  · cases z
  · obtain ⟨y, q2, z⟩ := map_some z
    cases z
  · rename_i q
    cases z
    exact h.ex _ _ q
  · cases z
theorem way_then {K : PySem.W.Frag} {Hs H H' : Hp} {x : Rs} : ∀ {π : List Pe} {v : V} {r : Rs} {fp : List Addr}, Own K .rdo Hs H v r fp → getP r π = some x → (∀ a ∈ fp, ∀ C dx fv, H a = some (.ins C dx fv) → H' a = some (.ins C dx fv)) → (∀ a ∈ fp, ∀ kv, Rd H a (.dK kv) → Rd H' a (.dK kv)) → (∀ a ∈ fp, ∀ xs, H a = some (.lst xs) → H' a = some (.lst xs)) →
    ∃ u fpx, Way H' v π u ∧ Own K .rdo Hs H u x fpx ∧ ∀ a ∈ fpx, a ∈ fp
  | [], v, r, fp, o, e, _, _, _ => by
    rw [getP] at e
    cases e
    exact ⟨v, fp, .nil, o, fun _ h => h⟩
  | .f n :: π, v, r, fp, o, e, h1, h2, h3 => by
    cases o with
    | ins g1 g2 =>
      rename_i a dx c fv fs fp
      rw [getP] at e
      cases q : fs.lookup n with
      | none => rw [q] at e; cases e
      | some y =>
        rw [q] at e
        obtain ⟨u, fpx, fpc, l, oy, pm, _⟩ := ownF_foc g2 q
        have sub : ∀ b ∈ fpx, b ∈ a :: fp := fun b m => List.mem_cons_of_mem _ (pm.mem_iff.mpr (List.mem_append_left _ m))
        obtain ⟨w, fpw, w1, w2, w3⟩ := way_then oy e (fun b m => h1 b (sub b m)) (fun b m => h2 b (sub b m)) (fun b m => h3 b (sub b m))
        exact ⟨w, fpw, .f (h1 a (by simp) _ _ _ g1) l w1, w2, fun b m => sub b (w3 b m)⟩
    | _ => cases e
  | .k kk :: π, v, r, fp, o, e, h1, h2, h3 => by
    cases o with
    | dct g1 nk g2 =>
      rename_i a n kvv kvs fp
      rw [getP] at e
      cases q : valR kk kvs with
      | none => rw [q] at e; cases e
      | some y =>
        rw [q] at e
        obtain ⟨u, fpx, fpc, l, oy, pm, _⟩ := ownK_foc g2 q
        have sub : ∀ b ∈ fpx, b ∈ a :: fp := fun b m => List.mem_cons_of_mem _ (pm.mem_iff.mpr (List.mem_append_left _ m))
        obtain ⟨w, fpw, w1, w2, w3⟩ := way_then oy e (fun b m => h1 b (sub b m)) (fun b m => h2 b (sub b m)) (fun b m => h3 b (sub b m))
        exact ⟨w, fpw, .k (h2 a (by simp) _ (dctAt_rd g1)) l w1, w2, fun b m => sub b (w3 b m)⟩
    | _ => cases e
  | .i j :: π, v, r, fp, o, e, h1, h2, h3 => by
    cases o with
    | lsr g1 g2 =>
      rename_i a xs rs fp
      rw [getP] at e
      cases q : rs[j]? with
      | none => rw [q] at e; cases e
      | some y =>
        rw [q] at e
        obtain ⟨u, fpx, fpc, l, oy, pm, _⟩ := ownS_foc g2 q
        have sub : ∀ b ∈ fpx, b ∈ a :: fp := fun b m => List.mem_cons_of_mem _ (pm.mem_iff.mpr (List.mem_append_left _ m))
        obtain ⟨w, fpw, w1, w2, w3⟩ := way_then oy e (fun b m => h1 b (sub b m)) (fun b m => h2 b (sub b m)) (fun b m => h3 b (sub b m))
        exact ⟨w, fpw, .i (h3 a (by simp) _ g1) l w1, w2, fun b m => sub b (w3 b m)⟩
    | _ => cases e
theorem env_setB {K : PySem.W.Frag} {g : Gh} {Hs H : Hp} {T : List VR} {σ : St} {v : V} {x : Rs} {fp : List Addr} {i : Nat} (env : EnvAt K mk g Hs H T σ ρ) (o : Own K .rdo g.Hs0 g.H0 v x fp) (nw : ∀ a ∈ fp, ¬ g.W a) (hi : i < ρ.length) (hp : mk[i]? ≠ some true) : EnvAt K mk g Hs H T (σ.set i (some v)) (put ρ i (.bo x)) := by
  have e1 := env_set (env_push env (d := .none) .non) hi hp
  obtain ⟨⟨L, sl, h8⟩, pk, bor, als⟩ := e1
  have hi' : i < (dropA i ρ).length := by rw [dropA_len]; exact hi
  have eσ : (σ.set i (some (V.non))).set i (some v) = σ.set i (some v) := List.set_set ..
  have eρ : (put ρ i (.ow (.da .none))).set i (.bo x) = put ρ i (.bo x) := by unfold put; exact List.set_set ..
  have hl : i < σ.length := by rw [sl_len env.st.choose_spec.1]; exact hi
  refine ⟨?_, fun j w h1 h2 => ?_, fun j r h1 => ?_, fun j k π h1 => ?_⟩
  · have : ∀ {σ : St} {ρ : En} {L : List VR} {j : Nat}, Sl σ ρ L → ρ[j]? = some (.ow (.da .none)) → ∃ L', Sl (σ.set j (some v)) (ρ.set j (.bo x)) L' ∧ ∃ v0, L.Perm ((v0, Rs.da .none) :: L') := fun {σ ρ L j} z q => by
      induction ρ generalizing σ L j with
      | nil => simp at q
      | cons s ρ ih =>
        cases j with
        | zero =>
          simp at q
          subst q
          cases z with
          | ow z => exact ⟨_, .bo z, _, .refl _⟩
        | succ j =>
          cases z with
          | un z => obtain ⟨L', a, b⟩ := ih z (by simpa using q); exact ⟨L', .un a, b⟩
          | bo z => obtain ⟨L', a, b⟩ := ih z (by simpa using q); exact ⟨L', .bo a, b⟩
          | al z => obtain ⟨L', a, b⟩ := ih z (by simpa using q); exact ⟨L', .al a, b⟩
          | ow z =>
            obtain ⟨L', a, v0, b⟩ := ih z (by simpa using q)
            exact ⟨_, .ow a, v0, (b.cons _).trans (List.Perm.swap _ _ _)⟩
    obtain ⟨L', a, v0, b⟩ := this sl (show (put ρ i (.ow (.da .none)))[i]? = _ by unfold put; exact List.getElem?_set_self hi')
    rw [eσ, eρ] at a
    exact ⟨L', a, st_tail (x := (v0, Rs.da .none)) (st_perm (b.append_right T) h8)⟩
  · have := pk j w h1 h2
    rw [List.getElem?_set_ne (fun z => hp (by rw [z]; exact h1))] at this ⊢
    exact this
  · unfold put at h1
    by_cases hj : i = j
    · subst hj
      rw [List.getElem?_set_self hi'] at h1
      cases h1
      exact ⟨v, fp, List.getElem?_set_self hl, o, nw⟩
    · have := bor j r (by unfold put; rw [List.getElem?_set_ne hj] at h1 ⊢; exact h1)
      rw [List.getElem?_set_ne hj] at this ⊢
      exact this
  · unfold put at h1
    by_cases hj : i = j
    · subst hj
      rw [List.getElem?_set_self hi'] at h1; cases h1
    · rw [List.getElem?_set_ne hj] at h1 ⊢
      obtain ⟨h2, hk⟩ := dropA_al h1
      rw [List.getElem?_set_ne (Ne.symm hk)]
      exact env.als j k π h2
/-- x = o.m(e, ..), which tells a part of what is only read -/
def setB (i : Nat) (sx : En → Option (Rz (Nat × List Pe))) : FS := fun ρ => match sx ρ with
  | some (.ok p) => (match atB ρ p with
    | some x => if i < ρ.length then some (.nx (put ρ i (.bo x))) else none
    | none => none)
  | some (.ex c) => some (.ex c ρ)
  | none => none
theorem ss_setB {i : Nat} {n : Str} (hN : X.N.Nodup) (hi : X.N[i]? = some n) (hx : Loc X.env.scope n) (he : SBx X W e sx) (hp : mk[i]? ≠ some true := by decide)
    (hs : swapsWith e (some (.Name n pp)) pos.line X.env = pure false := by rfl) (hf : X.fn n = true ∨ X.env.scope.names.lookup n = some .local := by first | exact .inl rfl | exact .inr rfl | assumption) :
    SS X mk W (.Assign [.Name n pp] e pos) (setB i sx) := fun ρ o z => by
  unfold setB at z
  split at z
  · rename_i p q
    split at z
    · rename_i x q1
      split at z
      · rename_i hl
        cases z
        refine ps_imp (ps_set hN hi hx (he.ok _ _ q).2 hs hf) fun D σ H ⟨g, Hs, env, k⟩ => ⟨Hs, _, env_q env, fun v u Hs1 H1 hv e1 w => ?_⟩
        have env1 := env_ext e1 env
        obtain ⟨r, h1, h2⟩ := atB_some q1
        obtain ⟨v', fp, hv', o0, nw⟩ := env1.bor p.1 r h1
        rw [hv] at hv'; cases hv'
        obtain ⟨⟨L, sl, h9⟩, _⟩ := _root_.id env1
        have kp : ∀ a ∈ fp, ∀ u, g.H0 a = some u → (∀ kv, u ≠ .dK kv) → H1 a = some u := fun a m u e nd => by
          by_cases hlk : a ∈ g.lk.map (·.1)
          · obtain ⟨p', hp', rfl⟩ := List.mem_map.mp hlk
            obtain ⟨kv', c1, _, c2⟩ := h9.keepL p' hp'
            rw [e] at c1; cases c1
            exact (nd _ rfl).elim
          · exact h9.keep a u e (nw a m) hlk
        obtain ⟨u', fpx, w1, ox, sub⟩ := way_then (H' := H1) o0 h2 (fun a m C dx fv e => kp a m _ e (fun _ z => nomatch z)) (fun a m kv e => by
          by_cases hlk : a ∈ g.lk.map (·.1)
          · obtain ⟨p', hp', rfl⟩ := List.mem_map.mp hlk
            obtain ⟨kv', c1, _, c2⟩ := h9.keepL p' hp'
            have : kv' = kv := Rd.inj (H := g.H0) (.inl c1) e
            subst this
            exact .inr ⟨_, c2⟩
          · exact Rd.mono (fun u e => h9.keep a u e (nw a m) hlk) e) (fun a m xs e => kp a m _ e (fun _ z => nomatch z))
        have := way_inj w w1
        subst this
        exact k _ Hs1 H1 e1.data (env_setB env1 ox (fun a m => nw a (sub a m)) hl hp)
      · cases z
    · cases z
  · rename_i q
    cases z
    exact ps_imp (ps_set hN hi hx (he.ex _ _ q) hs hf) fun D σ H ⟨g, Hs, env, k⟩ => ⟨Hs, _, env_q env, fun Hs1 H1 e1 => k σ Hs1 H1 e1.data (env_ext e1 env)⟩
  · cases z
end
end Cg

/-! tuple(xs), int(x), str(x), x.split(y). -/
namespace Cg
open PySem L2
section
variable {X : Cx} {mk : List Bool} {W : WX} {a b e o : Expr} {es : List Expr} {pos pp apos : Pos} {sa sb : FE} {sd : FD} {ρ : En}
theorem ktup {K : PySem.W.Frag} {Hs H : Hp} {ds : List PyData} {vs : List V} {Q : VK} {p : Addr} (s : Same Hs H) (np : H p = none) (h : DpAll K Hs vs ds) (k : ∀ u Hs' H' f, Ext Hs H Hs' H' → Own K (.own []) Hs' H' u (.da (.tuple ds)) f → f.Nodup → (∀ a ∈ f, H a = none ∧ Hs' a = none) → Q u H') : Q (.ref p) (upd H p (.tup vs)) := by
  have e2 : Ext Hs H (upd Hs p (.tup vs)) (upd H p (.tup vs)) := Ext.grow s np (fun _ z => nomatch z)
  exact k _ _ _ [] e2 (.da (.tup upd_same (dpAll_mono e2.data h))) (by simp) (by simp)
/-- tuple(xs) -/
def tpR : Rs → Option Rs
  | .lst ds => some (.da (.tuple ds))
  | .da (.list ds) => some (.da (.tuple ds))
  | .da (.tuple ds) => some (.da (.tuple ds))
  | _ => none
theorem sv_tuple (hm : X.mg "tuple" = none) (ha : SA X W a sa) (hg : Gl X "tuple" := by rfl) (he : starEach (a :: []) X.env = (false, eval a X.env) :: starEach [] X.env := by rfl) (hpl : (backTo pos (starEach [] X.env)).any (·.1) = false := by rfl) :
    SV X W (.Call (.Name "tuple" pp) [a] [] pos) (op1 tpR sa) :=
  sv_op1 ha fun ρ r x h q => by
    unfold tpR at h
    split at h
    · cases h
      exact q_ty1 call_tuple_of hg hm (by decide +kernel) q (fun v Hs H Q fp s o k => by
        cases o with
        | lst h1 h2 => exact ⟨_, _, rfl, .inl ⟨SqL.of h1, fun l nl => ktup s nl h2 k⟩⟩) (by decide) (by decide) he hpl
    · cases h
      exact q_ty1 call_tuple_of hg hm (by decide +kernel) q (fun v Hs H Q fp s o k => by
        obtain ⟨p, xs, rfl, h1, h2⟩ := dp_lst (own_dp o)
        exact ⟨_, _, rfl, .inl ⟨SqL.of (s _ _ h1), fun l nl => ktup s nl h2 k⟩⟩) (by decide) (by decide) he hpl
    · cases h
      exact q_ty1 call_tuple_of hg hm (by decide +kernel) q (fun v Hs H Q fp s o k => by
        have dd := own_dp o
        obtain ⟨p, xs, rfl, h1, h2⟩ := dp_tup dd
        exact ⟨_, _, rfl, .inr ⟨SqT.of (s _ _ h1), kdat s dd k⟩⟩) (by decide) (by decide) he hpl
    · cases h
/-- int(x) -/
def itR1 : Rs → Option Rs
  | .da (.int i) => some (.da (.int i))
  | .da (.bool k) => some (.da (.int (if k then 1 else 0)))
  | .da (.str z) => if z.length ≤ 640 then (PySem.intText? z).map fun n => .da (.int n) else none
  | _ => none
theorem dp_bool' {K : PySem.W.Frag} {H : Hp} {v : V} {k : Bool} (h : Dp K H v (.bool k)) : v = .bl k := by cases h; rfl
theorem sv_int1 (hm : X.mg "int" = none) (ha : SA X W a sa) (hg : Gl X "int" := by rfl) (he : starEach (a :: []) X.env = (false, eval a X.env) :: starEach [] X.env := by rfl) (hpl : (backTo pos (starEach [] X.env)).any (·.1) = false := by rfl) :
    SV X W (.Call (.Name "int" pp) [a] [] pos) (op1 itR1 sa) :=
  sv_op1 ha fun ρ r x h q => by
    unfold itR1 at h
    split at h
    · cases h
      exact q_ty1 call_int1 hg hm (by decide +kernel) q (fun v Hs H Q fp s o k => by
        rw [dp_int (own_dp o)]
        exact .inl ⟨_, rfl, kdat s (.int _) k⟩) (by decide) (by decide) he hpl
    · cases h
      exact q_ty1 call_int1 hg hm (by decide +kernel) q (fun v Hs H Q fp s o k => by
        rw [dp_bool' (own_dp o)]
        exact .inr ⟨_, rfl, kdat s (.int _) k⟩) (by decide) (by decide) he hpl
    · split at h
      · rename_i hz
        obtain ⟨n, hn, rfl⟩ := map_some h
        exact q_ty1 call_int_str hg hm (by decide +kernel) q (fun v Hs H Q fp s o k => by
          rw [dp_str (own_dp o)]
          exact ⟨_, _, rfl, hn, hz, kdat s (.int _) k⟩) (by decide) (by decide) he hpl
      · cases h
    · cases h
/-- str(x) -/
def stR : Rs → Option Rs
  | .da (.int i) => if i.natAbs.log2 < 1920 then some (.da (.str (toString i))) else none
  | .da (.str z) => some (.da (.str z))
  | _ => none
theorem sv_str1 (hm : X.mg "str" = none) (ha : SA X W a sa) (hg : Gl X "str" := by rfl) (he : starEach (a :: []) X.env = (false, eval a X.env) :: starEach [] X.env := by rfl) (hpl : (backTo pos (starEach [] X.env)).any (·.1) = false := by rfl) :
    SV X W (.Call (.Name "str" pp) [a] [] pos) (op1 stR sa) :=
  sv_op1 ha fun ρ r x h q => by
    unfold stR at h
    split at h
    · split at h
      · rename_i hz
        cases h
        exact q_ty1 call_str_int hg hm (by decide +kernel) q (fun v Hs H Q fp s o k => by
          rw [dp_int (own_dp o)]
          exact ⟨_, rfl, hz, kdat s (.str _) k⟩) (by decide) (by decide) he hpl
      · cases h
    · cases h
      exact q_ty1 SkE.call_str_str hg hm (by decide +kernel) q (fun v Hs H Q fp s o k => by
        rw [dp_str (own_dp o)]
        exact ⟨_, rfl, kdat s (.str _) k⟩) (by decide) (by decide) he hpl
    · cases h
/-- x.split(y) -/
def splC (sd sd' : FD) : FE := fun ρ => match okk (sd ρ), okk (sd' ρ) with
  | some (.str z), some (.str y) => if (y.length == 0) = false ∧ z.length + 2 ≤ sizeLine then some (.ok (.lst ((Txt.split z y).map .str))) else none
  | _, _ => none
theorem dpAll_strs {K : PySem.W.Frag} {H : Hp} : ∀ ys : List Str, DpAll K H (ys.map V.str) (ys.map PyData.str)
  | [] => .nil
  | y :: ys => .cons (.str _) (dpAll_strs ys)
theorem sv_split {sd' : FD} (ha : SD X W o sd) (hb : SD X W e sd') (hs : starEach [e] X.env = [(false, eval e X.env)] := by rfl) (hbase : attributeBase o "split" X.env (eval o X.env) = eval o X.env := by rfl) (hline : (apos.endLine == pos.line) = true := by rfl) :
    SV X W (.Call (.Attribute o "split" apos) [e] [] pos) (splC sd sd') := by
  refine ⟨fun ρ x z => ?_, fun ρ cc z => ?_⟩ <;> unfold splC at z <;> split at z
  · rename_i y1 y2 q1 q2
    split at z
    · rename_i hz
      cases z
      refine pe_imp (pe_split (ha.ok _ _ (okk_some q1)) (hb.ok _ _ (okk_some q2)) hs hbase hline) fun σ H Q ⟨Hs, av, env, k⟩ => tq_data env fun v Hs1 H1 e1 dv => ?_
      rw [dp_str dv]
      refine ⟨⟨_, rfl⟩, tq_data (envQ_ext e1 env) fun v2 Hs2 H2 e2 dv2 => ?_⟩
      rw [dp_str dv2]
      refine ⟨_, _, rfl, rfl, hz.1, hz.2, fun p np => ?_⟩
      have e3 := e1.trans e2
      have e4 : Ext Hs2 H2 Hs2 (upd H2 p (.lst ((Txt.split y1 y2).map V.str))) := Ext.more e3.sub np
      refine k _ Hs2 _ [p] (e3.trans e4) (.lst upd_same (dpAll_strs _)) (by simp) fun a m => ?_
      have z : a = p := by simpa using m
      subst z
      exact ⟨e3.all.free np, e3.sub.free np⟩
    · cases z
  · cases z
  · split at z <;> cases z
  · cases z
end
end Cg

/-! x.index(e) where e may be refused; l[i] = e, e with effects. -/
namespace Cg
open PySem L2
section
variable {X : Cx} {mk : List Bool} {W : WX} {o e ix : Expr} {pos cpos apos tpos : Pos} {sa : FE} {sd : FD} {sp : FP} {se : En → Option Oe}
def idxX (sa : FE) (sd : FD) : FE := fun ρ => match okk (sa ρ), sd ρ with
  | some r, some (.ok d) => (idxR r (.da d)).map .ok
  | some r, some (.ex c) => if (asL r).isSome then some (.ex c) else none
  | _, _ => none
theorem sv_indexX {k : Nat} (hr : Room k X.A) (ho : SA X W o sa) (hd : SD X W e sd) (hbase : attributeBase o "index" X.env (eval o X.env) = eval o X.env := by rfl)
    (hfew : ((backTo cpos (starEach (e :: []) X.env)).all (fun x => !x.1) && (backToKw cpos (keywordEach [] X.env)).all (fun x => x.1.isSome)
        && decide ((e :: ([] : List Expr)).length + ([] : List Keyword).length + (if ([] : List Keyword).isEmpty then 0 else 1) < 30)) = true := by rfl)
    (hline : (apos.endLine == cpos.line) = true := by rfl) (hs : starEach (e :: []) X.env = (false, eval e X.env) :: starEach [] X.env := by rfl) (hplain : (backTo cpos (starEach [] X.env)).any (·.1) = false := by rfl) :
    SV X W (.Call (.Attribute o "index" apos) [e] [] cpos) (idxX sa sd) := by
  have old := sv_index hr ho hd hbase hfew hline hs hplain
  refine ⟨fun ρ x z => ?_, fun ρ cc z => ?_⟩ <;> unfold idxX at z <;> split at z
  · rename_i r d q1 q2
    refine old.ok ρ x ?_
    unfold idxC
    rw [q1, q2]
    exact z
  · split at z <;> cases z
  · cases z
  · obtain ⟨y, q, z⟩ := map_some z
    cases z
  · rename_i r c q1 q2
    split at z
    · rename_i hz
      cases z
      obtain ⟨ds, q3⟩ := Option.isSome_iff_exists.mp hz
      refine pe_imp (pe_bm PySem.F.plainAttrs_list PySem.F.slot_list_index PySem.F.type_list_index (mt_indexD (units65 hr)) (ho.ok _ _ (okk_some q1)) (pa_cons (hd.ex _ _ q2) pa_nil hs) hbase hfew hline hs hplain) fun σ H Q ⟨Hs, av, env, k⟩ => ⟨Hs, av, env, fun v Hs1 H1 fp e1 o1 n1 => ?_⟩
      obtain ⟨l, vs, rfl, g1, d1⟩ := asL_own e1.sub o1 q3
      exact ⟨.inl ⟨rfl, vs, SqL.of g1⟩, Hs1, av, envQ_ext e1 env, fun Hs' H' e' => k Hs' H' (e1.trans e')⟩
    · cases z
  · cases z
def lputE (sp : FP) (sd : FD) (se : En → Option Oe) : FS := fun ρ => match se ρ with
  | some (.ok (.da y) ρ1) => (match sp ρ1, okk (sd ρ1) with
    | some p, some (.int i) => (match atP ρ1 p with
      | some (.lst ds) => (match ixN ds.length i with
        | some j => some (.nx (upS ρ1 p.1 p.2 (.lst (ds.set j y))))
        | none => none)
      | _ => none)
    | _, _ => none)
  | _ => none
theorem ss_lputE (ho : SP X o sp) (hd : SD X W ix sd) (he : SE X mk W e se)
    (ha : ∀ v, assign (.Subscript o ix tpos) X.env v = (do
        let ov ← holding [v] (eval o X.env)
        let iv ← holding [v, ov] (eval ix X.env)
        standAt tpos
        holding [v, ov, iv] (setItem ov iv v)
        release [v, ov, iv] []) := by intro _; rfl)
    (hs : swapsWithSole [.Subscript o ix tpos] e pos.line X.env = pure false := by rfl) (hw : swappedStores [.Subscript o ix tpos] e X.env = pure none := by rfl)
    (h1 : (assignEach [.Subscript o ix tpos] X.env).map (·.2) = [assign (.Subscript o ix tpos) X.env] := by rfl) :
    SS X mk W (.Assign [.Subscript o ix tpos] e pos) (lputE sp sd se) := fun ρ ou z => by
  unfold lputE at z
  split at z
  · rename_i y ρ1 q1
    split at z
    · rename_i p i q2 q3
      split at z
      · rename_i ds q4
        split at z
        · rename_i j hj
          cases z
          refine ps_imp (ps_asg (he.ok _ _ _ q1) (pg_sub (ho _ _ q2).2 (hd.ok _ _ (okk_some q3)) set_list ha) hs hw h1) fun D σ H ⟨g, Hs, env, k⟩ => ⟨g, Hs, [], env, fun v Hs1 H1 s1 e0 => ?_⟩
          have dv := env_dp e0
          have e1 := env_pop e0
          refine ⟨Hs1, _, env_q e1, fun v0 u Hs2 H2 hv e2 wy => tq_data (env_q (env_ext e2 e1)) fun wk Hs3 H3 e3 dk => ?_⟩
          obtain ⟨a, xs, rfl, g1, g2, close⟩ := env_lst (env_ext e3 (env_ext e2 e1)) q4 hv (way_mono e3.all wy)
          rw [dp_int dk]
          exact ⟨a, xs, _, j, rfl, rfl, g1, by rw [dpAll_length g2]; exact hj, k σ Hs3 _ (s1.trans (e2.data.trans e3.data)) (close _ _ (dpAll_set j g2 (dp_mono (e2.data.trans e3.data) dv)))⟩
        · cases z
      · cases z
    · cases z
  · cases z
end
end Cg

/-! a name in a tuple of names. -/
namespace Cg
open PySem L2
section
variable {X : Cx} {W : WX} {a b : Expr} {pos : Pos} {sa sb : FE}
def inSR (a b : Rs) : Option Bool := match a, b with
  | .da (.str x), .da (.tuple ds) => (strsD ds).map fun ys => decide (x ∈ ys)
  | .da (.str x), b => (match asL b with
    | some ds => (strsD ds).map fun ys => decide (x ∈ ys)
    | none => none)
  | _, _ => none
theorem inV_strs (x : Str) : ∀ ys : List Str, inV (.str x) (ys.map V.str) = decide (x ∈ ys)
  | [] => rfl
  | y :: ys => by
    show (eqV (.str y) (.str x) || inV (.str x) (ys.map V.str)) = _
    rw [inV_strs x ys]
    have : eqV (.str y) (.str x) = decide (y = x) := by
      show (y == x) = _
      by_cases h : y = x <;> simp [h]
    rw [this]
    by_cases h : y = x
    · subst h; simp
    · have h' : ¬ x = y := fun e => h e.symm
      simp [h, h']
theorem flat_strs : ∀ ys : List Str, (ys.map V.str).all flatV = true
  | [] => rfl
  | y :: ys => by rw [List.map_cons, List.all_cons, flat_strs ys]; rfl
theorem st_inS (ha : SA X W a sa) (hb : SA X W b sb) (hm : behindInMarks .In b = false := by with_unfolding_all rfl) : ST X (.Compare a [.In] [b] pos) (cm2 inSR sa sb) :=
  st_cmp op_in_seq ha hb hm fun r1 r2 t v w Hs H Q fp fq h s o1 o2 k => by
    unfold inSR at h
    split at h
    · rename_i x ds
      obtain ⟨ys, q, rfl⟩ := map_some h
      obtain ⟨p, xs, rfl, q1, rr⟩ := dp_tup (own_dp o2)
      have e := strsD_dp rr q
      subst e
      rw [dp_str (own_dp o1)]
      refine ⟨p, _, rfl, .inr (SqT.of (s _ _ q1)), rfl, flat_strs ys, ?_⟩
      show Q (.bl (inV (.str x) (ys.map V.str))) H
      rw [inV_strs]
      exact k
    · rename_i x _
      split at h
      · rename_i ds hd
        obtain ⟨ys, q, rfl⟩ := map_some h
        obtain ⟨l, vs, rfl, e1, d1⟩ := asL_own s o2 hd
        have e := strsD_dp d1 q
        subst e
        rw [dp_str (own_dp o1)]
        refine ⟨l, _, rfl, .inl (SqL.of e1), rfl, flat_strs ys, ?_⟩
        show Q (.bl (inV (.str x) (ys.map V.str))) H
        rw [inV_strs]
        exact k
      · cases h
    · cases h
end
end Cg

/-! f'..{x}..': texts and ints. -/
namespace Cg
open PySem L2
section
variable {X : Cx} {W : WX} {e : Expr} {es : List Expr} {pos : Pos} {sd : FD} {ρ : En}
def fmt1 : PyData → Option Str
  | .str z => if z.length ≤ sizeLine then some z else none
  | .int i => if i.natAbs.log2 < 1920 then some (toString i) else none
  | _ => none
def fmtD (sd : FD) : FD := fun ρ => bnz (sd ρ) fun d => (fmt1 d).map fun y => .ok (.str y)
theorem sd_fmt (h : SD X W e sd) : SD X W (.FormattedValue e (-1) none pos) (fmtD sd) := by
  refine ⟨fun ρ d z => ?_, fun ρ c z => ?_⟩
  · obtain ⟨d0, q1, q2⟩ := bnz_ok z
    obtain ⟨y, q3, q4⟩ := map_some q2
    cases q4
    refine pe_imp (pe_fmt (h.ok _ _ q1)) fun σ H Q ⟨Hs, av, env, k⟩ => tq_data env fun v Hs1 H1 e1 dv => ?_
    unfold fmt1 at q3
    split at q3
    · split at q3
      · rename_i hz
        cases q3
        rw [dp_str dv]
        exact .inl ⟨_, rfl, hz, kdata k e1 (.str _)⟩
      · cases q3
    · split at q3
      · rename_i hz
        cases q3
        rw [dp_int dv]
        exact .inr ⟨_, rfl, hz, kdata k e1 (.str _)⟩
      · cases q3
    · cases q3
  · rcases bnz_ex z with q | ⟨d0, q1, q2⟩
    · exact pe_imp (pe_fmt (h.ex _ _ q)) fun σ H Q z => z
    · obtain ⟨y, q3, q4⟩ := map_some q2
      cases q4
inductive SFs (X : Cx) (W : WX) : List Expr → List FD → Prop
  | nil : SFs X W [] []
  | cons {e : Expr} {s : FD} {es : List Expr} {ss : List FD} : SD X W e s → SFs X W es ss → SFs X W (e :: es) (s :: ss)
def joinF : List FD → En → Str → Option Str
  | [], _, acc => some acc
  | s :: ss, ρ, acc => match okk (s ρ) with
    | some (.str y) => if (acc ++ y).length ≤ sizeLine then joinF ss ρ (acc ++ y) else none
    | _ => none
theorem sfs_pj {es : List Expr} {ss : List FD} (h : SFs X W es ss) : ∀ {acc out : Str}, joinF ss ρ acc = some out → ∃ ts, PJ X es ts ∧ ∀ (σ : St) (H : Hp) (Q : Str → Hp → Prop) (Hs : Hp) (av : Addr → Prop), EnvQ X.K Hs H av σ ρ → (∀ Hs' H', Ext Hs H Hs' H' → Q out H') → tJs ts acc σ H Q := by
  induction h with
  | nil =>
    intro acc out z
    cases z
    exact ⟨[], .nil, fun σ H Q Hs av env k => k Hs H (.refl env.sub)⟩
  | @cons e s es ss h1 _ ih =>
    intro acc out z
    unfold joinF at z
    split at z
    · rename_i y q
      split at z
      · rename_i hz
        obtain ⟨ts, p, r⟩ := ih z
        refine ⟨_, .cons (h1.ok _ _ (okk_some q)) p, fun σ H Q Hs av env k => ?_⟩
        show tV _ _ _ σ H _
        refine tq_data env fun v Hs1 H1 e1 dv => ?_
        rw [dp_str dv]
        exact ⟨y, rfl, hz, r σ H1 Q Hs1 av (envQ_ext e1 env) fun Hs' H' e' => k Hs' H' (e1.trans e')⟩
      · cases z
    · cases z
def jonC (ss : List FD) : FE := fun ρ => (joinF ss ρ Str.empty).map fun y => .ok (.da (.str y))
theorem sv_joined {v1 v2 : Expr} {rest : List Expr} {ss : List FD} (h : SFs X W (v1 :: v2 :: rest) ss) : SV X W (.JoinedStr (v1 :: v2 :: rest) pos) (jonC ss) := by
  refine ⟨fun ρ x z => ?_, fun ρ c z => ?_⟩
  · unfold jonC at z
    obtain ⟨y, q1, q2⟩ := map_some z
    cases q2
    obtain ⟨ts, p, r⟩ := sfs_pj h q1
    exact pe_imp (pe_joined p) fun σ H Q ⟨Hs, av, env, k⟩ => r σ H _ Hs av env fun Hs' H' e' => k _ Hs' H' [] e' (.da (.str _)) (by simp) (by simp)
  · unfold jonC at z
    obtain ⟨y, q1, q2⟩ := map_some z
    cases q2
end
end Cg

/-! dict(d) of data; {k: v, ..} with names as keys. -/
namespace Cg
open PySem L2
section
variable {X : Cx} {W : WX} {a e : Expr} {es : List Expr} {pos pp : Pos} {sa : FE} {ρ : En}
def daOnly (kvs : List (Key × Rs)) : Bool := kvs.all fun p => match p.2 with
  | .da _ => true
  | _ => false
theorem ownK_da {K : PySem.W.Frag} {m m' : Mo} {Hs H H' : Hp} : ∀ {kvv : List (Key × V)} {kvs : List (Key × Rs)} {fp : List Addr}, OwnK K m Hs H kvv kvs fp → daOnly kvs = true → OwnK K m' Hs H' kvv kvs []
  | _, _, _, .nil, _ => .nil
  | _, _, _, .cons (r := r) h t, q => by
    unfold daOnly at q
    rw [List.all_cons, Bool.and_eq_true] at q
    have q1 := q
    have t' := ownK_da (H' := H') (m' := m') t q1.2
    cases r with
    | da d => exact OwnK.cons (fp := []) (fps := []) (.da (own_dp h)) t'
    | un => exact absurd q1.1 (by simp)
    | scr _ => exact absurd q1.1 (by simp)
    | lst _ => exact absurd q1.1 (by simp)
    | dct _ _ => exact absurd q1.1 (by simp)
    | dtt _ => exact absurd q1.1 (by simp)
    | ins _ _ => exact absurd q1.1 (by simp)
    | tup _ => exact absurd q1.1 (by simp)
    | lsr _ => exact absurd q1.1 (by simp)
/-- dict(d) -/
def dcR : Rs → Option Rs
  | .dct _ kvs => if daOnly kvs then some (.dct 0 kvs) else none
  | _ => none
theorem sv_dictC (hm : X.mg "dict" = none) (ha : SA X W a sa) (hg : Gl X "dict" := by rfl) (he : starEach (a :: []) X.env = (false, eval a X.env) :: starEach [] X.env := by rfl) (hpl : (backTo pos (starEach [] X.env)).any (·.1) = false := by rfl) :
    SV X W (.Call (.Name "dict" pp) [a] [] pos) (op1 dcR sa) :=
  sv_op1 ha fun ρ r x h q => by
    unfold dcR at h
    split at h
    · split at h
      · rename_i hz
        cases h
        exact q_ty1 call_dictD hg hm (by decide +kernel) q (fun v Hs H Q fp s o k => by
          cases o with
          | dct h1 nk t =>
            refine ⟨_, _, rfl, h1, fun p np => ?_⟩
            exact k _ Hs _ [p] (Ext.more s np) (.dct (n := 0) (show upd H p (.dK _) p = _ from upd_same) nk (ownK_da t hz)) (by simp) fun a m => by
              have z : a = p := by simpa using m
              subst z
              exact ⟨np, s.free np⟩) (by decide) (by decide) he hpl
      · cases h
    · cases h

/-! displays -/
inductive SVs (X : Cx) (W : WX) : List Expr → List FE → Prop
  | nil : SVs X W [] []
  | cons {e : Expr} {s : FE} {es : List Expr} {ss : List FE} : SV X W e s → SVs X W es ss → SVs X W (e :: es) (s :: ss)
def allE : List FE → En → Option (List Rs)
  | [], _ => some []
  | s :: ss, ρ => match okk (s ρ), allE ss ρ with
    | some r, some rs => some (r :: rs)
    | _, _ => none
def dspC (ks : List Str) (ss : List FE) : FE := fun ρ => if ks.Nodup ∧ ks.length = ss.length ∧ ks.length ≤ 15 then (allE ss ρ).map fun rs => .ok (.dct 0 ((ks.map Sum.inr).zip rs)) else none
/-- the keys: texts -/
inductive KTs : List (Option Expr) → List Str → Prop
  | nil : KTs [] []
  | cons {x : Str} {j} {p : Pos} {es : List (Option Expr)} {xs : List Str} : KTs es xs → KTs (some (.Constant (.str x) j p) :: es) (x :: xs)
theorem kts_all {ks : List (Option Expr)} {xs : List Str} (h : KTs ks xs) : ks.all (·.isSome) = true ∧ ks.length = xs.length := by
  induction h with
  | nil => exact ⟨rfl, rfl⟩
  | cons _ ih => exact ⟨by rw [List.all_cons, ih.1]; rfl, by simp [ih.2]⟩
theorem allE_len : ∀ {ss : List FE} {rs : List Rs}, allE ss ρ = some rs → ss.length = rs.length
  | [], _, h => by cases h; rfl
  | s :: ss, _, h => by
    unfold allE at h
    split at h
    · rename_i q1 q2
      cases h
      simp [allE_len q2]
    · cases h
/-- the pairs, made one behind the other; p is the dict itself, that stands empty -/
theorem pairs_run {ks : List (Option Expr)} {xs : List Str} (hk : KTs ks xs) : ∀ {es : List Expr} {ss : List FE} {rs : List Rs}, SVs X W es ss → allE ss ρ = some rs → xs.length = ss.length →
    ∃ trs, PPs X pos ks es trs ∧ ∀ (σ : St) (H Hs : Hp) (av : Addr → Prop) (Q : List (V × V) → Hp → Prop), EnvQ X.K Hs H av σ ρ →
      (∀ (vs : List V) (Hs' H' : Hp) (fp : List Addr), Ext Hs H Hs' H' → OwnK X.K (.own []) Hs' H' ((xs.map Sum.inr).zip vs) ((xs.map Sum.inr).zip rs) fp → vs.length = xs.length → fp.Nodup → (∀ a ∈ fp, H a = none ∧ Hs' a = none) → Q (((xs.map Sum.inr).zip vs).map fun kv => (kV kv.1, kv.2)) H') →
      tPairs trs σ H Q := by
  induction hk with
  | nil =>
    intro es ss rs h z l
    cases h with
    | nil =>
      cases z
      exact ⟨[], pps_nil, fun σ H Hs av Q env k => k [] Hs H [] (.refl env.sub) .nil rfl (by simp) (by simp)⟩
    | cons _ _ => cases l
  | @cons x j p ks xs _ ih =>
    intro es ss rs h z l
    cases h with
    | nil => cases l
    | @cons e s es ss h1 h2 =>
      unfold allE at z
      split at z
      · rename_i r rs q1 q2
        cases z
        obtain ⟨trs, hp, run⟩ := ih h2 q2 (by simpa using l)
        refine ⟨_, pps_cons (q_str (X := X) (ρ := ρ) (i := x) (j := j) (pos := p)) (h1.ok _ _ (okk_some q1)) hp, fun σ H Hs av Q env k => ?_⟩
        show tV _ _ _ σ H _
        refine tq_data env fun v0 Hs0 H0 e0 dv => ?_
        rw [dp_str dv]
        refine ⟨Hs0, av, envQ_ext e0 env, fun v Hs1 H1 fp1 e1 o1 n1 f1 => ?_⟩
        have e01 := e0.trans e1
        refine run σ H1 Hs1 av _ (envQ_ext e01 env) fun vs Hs2 H2 fp2 e2 o2 lv n2 f2 => ?_
        have e02 := e01.trans e2
        have hn : ∀ a ∈ fp1, H1 a ≠ none := fun a m z => by
          obtain ⟨u, q⟩ := own_there o1 a m
          rw [z] at q; cases q
        have hs2 : ∀ a ∈ fp1, Hs2 a = none := fun a m => by
          cases q : Hs2 a with
          | none => rfl
          | some u =>
            rcases e2.new a u q with q' | q'
            · rw [(f1 a m).2] at q'; cases q'
            · exact absurd q'.1 (hn a m)
        refine k (v :: vs) Hs2 H2 (fp1 ++ fp2) e02 ?_ (by simp [lv]) ?_ ?_
        · exact OwnK.cons (own_mono' e2.data e2.all o1) o2
        · refine List.nodup_append.mpr ⟨n1, n2, fun a m b m' ee => ?_⟩
          subst ee
          exact hn a m (f2 a m').1
        · intro a m
          rcases List.mem_append.mp m with m | m
          · exact ⟨e0.all.free (f1 a m).1, hs2 a m⟩
          · exact ⟨e01.all.free (f2 a m).1, (f2 a m).2⟩
      · cases z
theorem zipk : ∀ {ks : List Key} {rs : List Rs}, ks.length = rs.length → (ks.zip rs).map (·.1) = ks
  | [], _, _ => rfl
  | k :: ks, [], h => by cases h
  | k :: ks, r :: rs, h => by simp [zipk (ks := ks) (rs := rs) (by simpa using h)]
theorem zipkv : ∀ {ks : List Key} {rs : List V}, ks.length = rs.length → (ks.zip rs).map (·.1) = ks
  | [], _, _ => rfl
  | k :: ks, [], h => by cases h
  | k :: ks, r :: rs, h => by simp [zipkv (ks := ks) (rs := rs) (by simpa using h)]
theorem merge_new : ∀ {more kvs : List (Key × V)}, ((kvs ++ more).map (·.1)).Nodup → mergeK kvs more = kvs ++ more
  | [], kvs, _ => by simp [mergeK]
  | p :: more, kvs, h => by
    have hn : valV kvs p.1 = none := by
      cases q : valV kvs p.1 with
      | none => rfl
      | some v =>
        have m := valV_in q
        rw [List.map_append, List.nodup_append] at h
        exact absurd rfl (h.2.2 _ m p.1 (by simp))
    show mergeK (putK kvs p.1 p.2) more = _
    rw [putK_new _ hn, merge_new (by simpa using h)]
    simp
theorem inr_nodup {xs : List Str} (h : xs.Nodup) : (xs.map (Sum.inr : Str → Key)).Nodup := by
  induction xs with
  | nil => simp
  | cons x xs ih =>
    rw [List.nodup_cons] at h
    rw [List.map_cons, List.nodup_cons]
    exact ⟨by simpa using h.1, ih h.2⟩
theorem sv_disp {ks : List (Option Expr)} {xs : List Str} {ss : List FE} (hk : KTs ks xs) (h : SVs X W es ss) (h0 : ks ≠ []) (hl : ks.length = es.length := by rfl) : SV X W (.Dict ks es pos) (dspC xs ss) := by
  refine ⟨fun ρ x z => ?_, fun ρ cc z => ?_⟩
  · unfold dspC at z
    split at z
    · rename_i hz
      obtain ⟨hn, hlen, h15⟩ := hz
      obtain ⟨rs, q1, q2⟩ := map_some z
      cases q2
      obtain ⟨trs, hp, run⟩ := pairs_run (pos := pos) hk h q1 hlen
      have ka := kts_all hk
      refine pe_imp (pe_disp hp ka.1 hl h0 (by rw [ka.2]; exact h15)) fun σ H Q ⟨Hs, av, env, k⟩ p np => ?_
      have e0 : Ext Hs H Hs (upd H p (.dK [])) := Ext.more env.sub np
      refine run σ _ Hs av _ (envQ_ext e0 env) fun vs Hs2 H2 fp e2 o2 lv n2 f2 => ?_
      have hnp : Hs2 p = none := by
        cases q : Hs2 p with
        | none => rfl
        | some u =>
          rcases e2.new p u q with q' | q'
          · rw [env.sub.free np] at q'; cases q'
          · rw [upd_same] at q'; cases q'.1
      have hp2 : H2 p = some (.dK []) := e2.all _ _ upd_same
      have ndk : (((xs.map (Sum.inr : Str → Key)).zip vs).map (·.1)).Nodup := by
        rw [zipkv (by simp [lv])]
        exact inr_nodup hn
      refine ⟨hp2, (xs.map Sum.inr).zip vs, rfl, by simp; omega, ?_⟩
      rw [merge_new (by simpa using ndk), List.nil_append]
      have pn : p ∉ fp := fun m => by
        have := (f2 p m).1
        rw [upd_same] at this; cases this
      have keep : ∀ b, b ≠ p → upd H2 p (.dK ((xs.map Sum.inr).zip vs)) b = H2 b := fun b hb => upd_ne hb
      refine k _ Hs2 _ (p :: fp) ⟨e2.data, fun b u q => ?_, fun b u q => ?_, fun b u q => ?_⟩ (.dct (n := 0) (show upd _ p (.dK _) p = _ from upd_same) ndk (ownK_mono (.refl _) o2 fun b m u q => ?_)) (List.nodup_cons.mpr ⟨pn, n2⟩) fun b m => ?_
      · have hb : b ≠ p := fun z => by subst z; rw [np] at q; cases q
        rw [keep b hb]
        exact e2.all b u (by rw [upd_ne hb]; exact q)
      · have hb : b ≠ p := fun z => by subst z; rw [hnp] at q; cases q
        rw [keep b hb]
        exact e2.sub b u q
      · rcases e2.new b u q with q' | q'
        · exact .inl q'
        · have hb : b ≠ p := fun z => by subst z; rw [upd_same] at q'; cases q'.1
          rw [upd_ne hb] at q'
          exact .inr q'
      · have hb : b ≠ p := fun z => pn (z ▸ m)
        rw [keep b hb]; exact q
      · rcases List.mem_cons.mp m with rfl | m
        · exact ⟨np, hnp⟩
        · have := f2 b m
          have hb : b ≠ p := fun z => pn (z ▸ m)
          rw [upd_ne hb] at this
          exact this
    · cases z
  · unfold dspC at z
    split at z
    · obtain ⟨rs, q1, q2⟩ := map_some z
      cases q2
    · cases z
end
end Cg

namespace Sm
open PySem L2 Cg
def exN : List Str := ["BadName", "Taken", "Full", "NoCraft", "TooFar", "BadMoment", "Past", "NotThere", "NoWatch", "NoTale"]
end Sm

namespace Lw
open PySem L2 Cg Sm
def top (i : Nat) : Stmt := PySem.Challenge.pw_overhaul_k52_a_line_read.main.body.getD i (.Pass ⟨0, 0, 0, 0⟩)
def dn0 : He.DefD := ⟨("_law_digits", none), "_law_digits", "_law_digits", defArgs (top 19), defBody (top 19), defScope (top 19), [], []⟩
def dn1 : He.DefD := ⟨("_law_names", none), "_law_names", "_law_names", defArgs (top 23), defBody (top 23), defScope (top 23), [], []⟩
def dn2 : He.DefD := ⟨("_law_low", none), "_law_low", "_law_low", defArgs (top 21), defBody (top 21), defScope (top 21), [], []⟩
def dn3 : He.DefD := ⟨("_law_anydeed", none), "_law_anydeed", "_law_anydeed", defArgs (top 25), defBody (top 25), defScope (top 25), [], []⟩
def dn4 : He.DefD := ⟨("_law_line", none), "_law_line", "_law_line", defArgs (top 24), defBody (top 24), defScope (top 24), [], []⟩
def dn5 : He.DefD := ⟨("good_name", none), "good_name", "good_name", defArgs (top 8), defBody (top 8), defScope (top 8), [], []⟩
def dn6 : He.DefD := ⟨("name_of", none), "name_of", "name_of", defArgs (top 15), defBody (top 15), defScope (top 15), [], []⟩
def dn7 : He.DefD := ⟨("whole_of", none), "whole_of", "whole_of", defArgs (top 13), defBody (top 13), defScope (top 13), [], []⟩
def dn8 : He.DefD := ⟨("shared", none), "shared", "shared", defArgs (top 4), defBody (top 4), defScope (top 4), [], []⟩
def dn9 : He.DefD := ⟨("moment_of", none), "moment_of", "moment_of", defArgs (top 14), defBody (top 14), defScope (top 14), [], []⟩
def dn10 : He.DefD := ⟨("deed_of", none), "deed_of", "deed_of", defArgs (top 16), defBody (top 16), defScope (top 16), [], []⟩
def dn11 : He.DefD := ⟨("_law_cell", none), "_law_cell", "_law_cell", defArgs (top 18), defBody (top 18), defScope (top 18), [], []⟩
def dn12 : He.DefD := ⟨("_law_whole", none), "_law_whole", "_law_whole", defArgs (top 20), defBody (top 20), defScope (top 20), [], []⟩
def dn13 : He.DefD := ⟨("_law_part", none), "_law_part", "_law_part", defArgs (top 22), defBody (top 22), defScope (top 22), [], []⟩
def dn14 : He.DefD := ⟨("_law_deedalike", none), "_law_deedalike", "_law_deedalike", defArgs (top 26), defBody (top 26), defScope (top 26), [], []⟩
def dn15 : He.DefD := ⟨("line_of", none), "line_of", "line_of", defArgs (top 12), defBody (top 12), defScope (top 12), [], []⟩
def dn16 : He.DefD := ⟨("law", none), "law", "law", defArgs (top 27), defBody (top 27), defScope (top 27), [], []⟩
def fn0 : List He.DefD := [dn0, dn1, dn2, dn3, dn4, dn5, dn6, dn7, dn8, dn9, dn10, dn11]
def fn1 : List He.DefD := [dn12, dn13, dn14, dn15, dn16]
def fn : List He.DefD := fn0 ++ fn1
def fa0 : List He.Fa := [.glo "law", .str "FIGURES" "0123456789", .int "LONGEST_names" 8, .int "LONGEST_tale" 12, .str "SIGNS" "abcdefghijklmnopqrstuvwxyz0123456789", .glo "NoTale", .glo "_law_anydeed", .glo "_law_cell", .glo "_law_deedalike", .glo "_law_digits", .glo "_law_line", .glo "_law_low"]
def fa1 : List He.Fa := [.glo "_law_names", .glo "_law_part", .glo "_law_whole", .glo "deed_of", .glo "good_name", .glo "line_of", .glo "moment_of", .glo "name_of", .glo "shared", .glo "whole_of", .exc "NoTale", .free "abs"]
def fa2 : List He.Fa := [.free "bool", .free "int", .free "isinstance", .free "len", .free "list", .free "range", .free "str", .free "tuple"]
def fa : List He.Fa := fa0 ++ fa1 ++ fa2
def names0 : List PySem.Str := ["WaterError", "NoTale", "shared", "SIGNS", "LONGEST_names", "good_name", "FIGURES", "LONGEST_tale", "line_of", "whole_of", "moment_of", "name_of"]
def names1 : List PySem.Str := ["deed_of", "_law_cell", "_law_digits", "_law_whole", "_law_low", "_law_part", "_law_names", "_law_line", "_law_anydeed", "_law_deedalike"]
def names : List PySem.Str := names0 ++ names1
abbrev R : PySem.W.OpenRow := PySem.W.OpenLaw.row PySem.Challenge.rw_overhaul_k52_a_line_read
abbrev hk : PySem.W.Hook := He.hookD 4 fa fn
def ob (s : PySem.W.SharedT) : He.AlD := He.obsDG 4 fa fn (HandSHeadRun.getT s)
theorem ob_eq (s : PySem.W.SharedT) : ob s = hk.obs s.abs := He.obsDG_eq (HandSHeadRun.getT_eq s)
open PySem.W PyProof.Rows
theorem runA (w : World) (os : OsState) : (HandSHeadRun.endF (HandSHeadRun.stepQ (HandSHeadRun.denQ HandSHeadRun.tabQ) R.prog w) 12000 R.prog w os).map (fun s => HandSHeadRun.looksF R.prog (boot_heap w.params) s.abs) = some true := by
  kernel_rfl
theorem runB (w : World) (os : OsState) : (HandSHeadRun.endF (HandSHeadRun.stepQ (HandSHeadRun.denQ HandSHeadRun.tabQ) R.prog w) 12000 R.prog w os).map (fun s => HandSHeadRun.seenQ (PySem.W.view R.prog [27]) names (importedModules R.prog.main.body) (fun s => PySem.W.xlAt (PySem.W.view R.prog [27]) [] s && PySem.W.recOk R.toRowW.records s) s.abs) = some (PySem.W.openGood (PySem.W.view R.prog [27]) names) := by
  kernel_rfl
theorem runC (w : World) (os : OsState) : (HandSHeadRun.endF (HandSHeadRun.stepQ (HandSHeadRun.denQ HandSHeadRun.tabQ) R.prog w) 12000 R.prog w os).map ob = some (hk.val w) := by
  kernel_rfl
theorem run (w : World) : HandSHeadRun.RunEq R (PySem.W.view R.prog [27]) hk ob 12000 names w := by
  intro os
  have a := runA w os
  have b := runB w os
  have c := runC w os
  generalize HandSHeadRun.endF (HandSHeadRun.stepQ (HandSHeadRun.denQ HandSHeadRun.tabQ) R.prog w) 12000 R.prog w os = e at a b c ⊢
  cases e with
  | none => cases a
  | some s => exact congrArg some (Prod.ext (Option.some.inj a) (Prod.ext (Option.some.inj b) (Option.some.inj c)))
end Lw

namespace Sm
open PySem L2 Cg
noncomputable def w_l_digits_0 : FS := (klS [4] (seqS (exprS (lmE appF (varP 2) (consD (dtV (op2 modI (varC 3) (varC 4))) nilD))) (setS 3 (fzE (qE (op2 divI (varC 3) (varC 4)))))))
noncomputable def w_l_digits_1 : FS := (klS [6, 7] (seqS (setS 5 (fzE (qE (op2 modI (op2 addR (op2 mulR (varC 5) (vD (cstC (.int 48271)))) (op2 mulR (vD (cstC (.int 10007))) (op2 addR (varC 6) (vD (cstC (.int 1)))))) (vD (cstC (.int 2147483629))))))) (seqS (setS 7 (fzE (qE (op2 modI (op2 addR (op2 addR (op2 mulR (varC 5) (varC 5)) (op2 mulR (vD (cstC (.int 69621))) (varC 5))) (varC 6)) (vD (cstC (.int 2147483563))))))) (exprS (lmE appF (varP 2) (consD (dtV (op2 modI (op2 divI (varC 7) (vD (cstC (.int 11)))) (subC (varC 1) (dtA (varC 6))))) nilD))))))
noncomputable def b_l_digits : FS := (seqS (setS 2 (qE (lstC nilD))) (seqS (klS [3, 4] (ifS (qT (cm2 geI (varC 0) (op2 powI (vD (cstC (.int 10))) (vD (cstC (.int 18)))))) (seqS (setS 3 (fzE (qE (op2 subI (varC 0) (op2 powI (vD (cstC (.int 10))) (vD (cstC (.int 18)))))))) (seqS (klS [3, 4] (forD 4 (dtA (varC 1)) w_l_digits_0)) (retS (mvE 2)))) nilS)) (seqS (setS 5 (fzE (qE (op2 modI (varC 0) (vD (cstC (.int 2147483647))))))) (seqS (klS [5, 6, 7] (forR 6 (dtV (op1 lenV (varC 1))) w_l_digits_1)) (retS (mvE 2))))))
noncomputable def f_l_digits : List Rs → Option Rt := bodyF 2 [] 8 b_l_digits
noncomputable def w_shared_0 : FS := (parS 0 1 (consD (dtA (varC 1)) (consD (dtV (op2 modI (varC 0) (varC 1))) nilD)))
noncomputable def b_shared : FS := (seqS (setS 0 (qE (op1 absR (varC 0)))) (seqS (setS 1 (fzE (qE (op1 absR (varC 1))))) (seqS (whileS (cm2 neR (varC 1) (vD (cstC (.int 0)))) w_shared_0) (retS (mvE 0)))))
noncomputable def f_shared : List Rs → Option Rt := bodyF 2 [] 2 b_shared
noncomputable def b_l_cell : FS := (seqS (ifS (qT (cm2 ltR (varC 1) (op1 lenV (varC 0)))) (retS (qE (vD (dtA (subC (varC 0) (dtA (varC 1))))))) nilS) (retS (qE (op2 addR (vD (cstC (.int 5))) (op2 mulR (vD (cstC (.int 17))) (varC 1))))))
noncomputable def f_l_cell : List Rs → Option Rt := bodyF 2 [] 2 b_l_cell
noncomputable def b_l_whole : FS := (retS (qE (bV (andT (asB (op1 (isiR "int") (varC 0))) (notT (asB (op1 (isiR "bool") (varC 0))))))))
noncomputable def f_l_whole : List Rs → Option Rt := bodyF 1 [] 1 b_l_whole
noncomputable def b_l_part : FS := (seqS (ifS (qT (orT (notT (asB (op1 (isiR "tuple") (varC 0)))) (cm2 neR (op1 lenV (varC 0)) (vD (cstC (.int 2)))))) (retS (qE (vD (cstC (.bool false))))) nilS) (seqS (ifS (qT (orT (notT (asB (callC f_l_whole (consA (subC (varC 0) (cstC (.int 0))) nilA)))) (notT (asB (callC f_l_whole (consA (subC (varC 0) (cstC (.int 1))) nilA)))))) (retS (qE (vD (cstC (.bool false))))) nilS) (retS (qE (bV (cm2 eqR (varC 0) (varC 1)))))))
noncomputable def f_l_part : List Rs → Option Rt := bodyF 2 [] 2 b_l_part
noncomputable def w_l_low_0 : FS := (parS 2 3 (consD (dtA (varC 3)) (consD (dtV (op2 modI (varC 2) (varC 3))) nilD)))
noncomputable def b_l_low : FS := (seqS (setS 2 (fzE (qE (op1 absR (varC 0))))) (seqS (setS 3 (fzE (mvE 1))) (seqS (klS [3] (whileS (cm2 neR (varC 3) (vD (cstC (.int 0)))) w_l_low_0)) (retS (qE (vD (tupC (consD (dtV (op2 divI (varC 0) (varC 2))) (consD (dtV (op2 divI (varC 1) (varC 2))) nilD)))))))))
noncomputable def f_l_low : List Rs → Option Rt := bodyF 2 [] 4 b_l_low
noncomputable def b_fraction : FS := (seqS (ifS (qT (cm2 eqR (varC 1) (vD (cstC (.int 0))))) (raiseS "BadMoment") nilS) (seqS (ifS (qT (cm2 ltR (varC 1) (vD (cstC (.int 0))))) (seqS (setS 0 (fzE (qE (op1 negR (varC 0))))) (setS 1 (fzE (qE (op1 negR (varC 1)))))) nilS) (seqS (setS 2 (fzE (qE (callC f_shared (consA (varC 0) (consA (varC 1) nilA)))))) (retS (qE (vD (tupC (consD (dtV (op2 divI (varC 0) (varC 2))) (consD (dtV (op2 divI (varC 1) (varC 2))) nilD)))))))))
noncomputable def f_fraction : List Rs → Option Rt := bodyF 2 [] 3 b_fraction
noncomputable def b_l_flags : FS := (seqS (setS 1 (fzE (qE (lstC (consD (cstC (.str "BadName")) (consD (cstC (.str "Taken")) (consD (cstC (.str "Full")) (consD (cstC (.str "NoCraft")) (consD (cstC (.str "TooFar")) (consD (cstC (.str "BadMoment")) (consD (cstC (.str "Past")) (consD (cstC (.str "NotThere")) (consD (cstC (.str "NoWatch")) (consD (cstC (.str "NoTale")) nilD)))))))))))))) (seqS (ifS (qT (cm2 eqR (varC 0) (vD (cstC (.str ""))))) (retS (qE (lstC nilD))) nilS) (retS (qE (op2 addR (frV (lstC (consD (cstC (.bool true)) nilD))) (frV (lcC 2 (itF (varC 1)) yesT (dtV (bV (cm2 eqR (varC 2) (varC 0)))))))))))
noncomputable def f_l_flags : List Rs → Option Rt := bodyF 1 [] 3 b_l_flags
noncomputable def b_l_drawn : FS := (seqS (setS 1 (fzE (qE (callC f_l_digits (consA (varC 0) (consA (frV (lstC (consD (cstC (.int 4)) (consD (dtV (op2 powI (vD (cstC (.int 10))) (vD (cstC (.int 30))))) (consD (dtV (op2 powI (vD (cstC (.int 10))) (vD (cstC (.int 30))))) nilD))))) nilA)))))) (seqS (ifS (qT (cm2 eqR (subC (varC 1) (cstC (.int 0))) (vD (cstC (.int 0))))) (retS (qE (callC f_l_low (consA (op2 subI (op2 modI (subC (varC 1) (cstC (.int 1))) (vD (cstC (.int 19)))) (vD (cstC (.int 9)))) (consA (op2 addR (vD (cstC (.int 1))) (op2 modI (subC (varC 1) (cstC (.int 2))) (vD (cstC (.int 12))))) nilA))))) nilS) (seqS (ifS (qT (cm2 eqR (subC (varC 1) (cstC (.int 0))) (vD (cstC (.int 1))))) (retS (qE (callC f_l_low (consA (op2 subI (op2 modI (subC (varC 1) (cstC (.int 1))) (vD (cstC (.int 2000001)))) (vD (cstC (.int 1000000)))) (consA (op2 addR (vD (cstC (.int 1))) (op2 modI (subC (varC 1) (cstC (.int 2))) (vD (cstC (.int 60))))) nilA))))) nilS) (seqS (ifS (qT (cm2 eqR (subC (varC 1) (cstC (.int 0))) (vD (cstC (.int 2))))) (retS (qE (callC f_l_low (consA (op2 subI (op2 modI (subC (varC 1) (cstC (.int 1))) (vD (cstC (.int 7)))) (vD (cstC (.int 3)))) (consA (vD (cstC (.int 1))) nilA))))) nilS) (retS (qE (callC f_l_low (consA (op2 subI (subC (varC 1) (cstC (.int 1))) (op2 mulR (vD (cstC (.int 5))) (op2 powI (vD (cstC (.int 10))) (vD (cstC (.int 7)))))) (consA (op2 addR (vD (cstC (.int 1))) (subC (varC 1) (cstC (.int 2)))) nilA)))))))))
noncomputable def f_l_drawn : List Rs → Option Rt := bodyF 1 [] 2 b_l_drawn
noncomputable def b_times : FS := (retS (qE (callC f_fraction (consA (op2 mulR (subC (varC 0) (cstC (.int 0))) (varC 1)) (consA (subC (varC 0) (cstC (.int 1))) nilA)))))
noncomputable def f_times : List Rs → Option Rt := bodyF 2 [] 2 b_times
noncomputable def b_plus : FS := (retS (qE (callC f_fraction (consA (op2 addR (op2 mulR (subC (varC 0) (cstC (.int 0))) (subC (varC 1) (cstC (.int 1)))) (op2 mulR (subC (varC 1) (cstC (.int 0))) (subC (varC 0) (cstC (.int 1))))) (consA (op2 mulR (subC (varC 0) (cstC (.int 1))) (subC (varC 1) (cstC (.int 1)))) nilA)))))
noncomputable def f_plus : List Rs → Option Rt := bodyF 2 [] 2 b_plus
noncomputable def b_minus : FS := (retS (qE (callC f_fraction (consA (op2 subI (op2 mulR (subC (varC 0) (cstC (.int 0))) (subC (varC 1) (cstC (.int 1)))) (op2 mulR (subC (varC 1) (cstC (.int 0))) (subC (varC 0) (cstC (.int 1))))) (consA (op2 mulR (subC (varC 0) (cstC (.int 1))) (subC (varC 1) (cstC (.int 1)))) nilA)))))
noncomputable def f_minus : List Rs → Option Rt := bodyF 2 [] 2 b_minus
noncomputable def b_less : FS := (retS (qE (bV (cm2 ltR (op2 mulR (subC (varC 0) (cstC (.int 0))) (subC (varC 1) (cstC (.int 1)))) (op2 mulR (subC (varC 1) (cstC (.int 0))) (subC (varC 0) (cstC (.int 1))))))))
noncomputable def f_less : List Rs → Option Rt := bodyF 2 [] 2 b_less
noncomputable def w_good_name_0 : FS := (klS [1] (ifS (qT (cm2 notInR (varC 1) (vD (cstC (.str "abcdefghijklmnopqrstuvwxyz0123456789"))))) (retS (qE (vD (cstC (.bool false))))) nilS))
noncomputable def b_good_name : FS := (seqS (ifS (qT (orT (cm2 ltR (op1 lenV (varC 0)) (vD (cstC (.int 1)))) (cm2 gtI (op1 lenV (varC 0)) (vD (cstC (.int 8)))))) (retS (qE (vD (cstC (.bool false))))) nilS) (seqS (klS [1] (forD 1 (dtA (varC 0)) w_good_name_0)) (retS (qE (vD (cstC (.bool true)))))))
noncomputable def f_good_name : List Rs → Option Rt := bodyF 1 [] 2 b_good_name
noncomputable def b_place_on : FS := (retS (qE (callC f_plus (consA (subC (varC 0) (cstC (.int 1))) (consA (frV (callC f_times (consA (frV (callC f_minus (consA (varC 1) (consA (subC (varC 0) (cstC (.int 0))) nilA)))) (consA (subC (varC 0) (cstC (.int 2))) nilA)))) nilA)))))
noncomputable def f_place_on : List Rs → Option Rt := bodyF 2 [] 2 b_place_on
noncomputable def b_l_at : FS := (seqS (setS 2 (fzE (qE (vD (dtA (subC (varC 0) (cstC (.int 0)))))))) (seqS (setS 3 (fzE (qE (vD (dtA (subC (varC 0) (cstC (.int 1)))))))) (seqS (setS 4 (fzE (qE (op2 mulR (subC (varC 0) (cstC (.int 2))) (op2 subI (op2 mulR (subC (varC 1) (cstC (.int 0))) (subC (varC 2) (cstC (.int 1)))) (op2 mulR (subC (varC 2) (cstC (.int 0))) (subC (varC 1) (cstC (.int 1))))))))) (seqS (setS 5 (fzE (qE (op2 mulR (subC (varC 1) (cstC (.int 1))) (subC (varC 2) (cstC (.int 1))))))) (retS (qE (callC f_l_low (consA (op2 addR (op2 mulR (subC (varC 3) (cstC (.int 0))) (varC 5)) (op2 mulR (varC 4) (subC (varC 3) (cstC (.int 1))))) (consA (op2 mulR (subC (varC 3) (cstC (.int 1))) (varC 5)) nilA)))))))))
noncomputable def f_l_at : List Rs → Option Rt := bodyF 2 [] 6 b_l_at
noncomputable def w_l_names_0 : FS := (klS [5] (seqS (lputS (varP 6) (dtA (varC 7)) (dtA (subC (varC 2) (dtV (op2 modI (op2 addR (subC (varC 3) (cstC (.int 1))) (op2 mulR (vD (cstC (.int 5))) (varC 5))) (vD (cstC (.int 36)))))))) (exprS (lmE appF (varP 8) (consD (dtV (joinC (cstC (.str "")) (varC 6))) nilD)))))
noncomputable def b_l_names : FS := (seqS (setS 2 (fzE (qE (vD (cstC (.str "abcdefghijklmnopqrstuvwxyz0123456789")))))) (seqS (setS 3 (fzE (qE (callC f_l_digits (consA (varC 0) (consA (frV (lstC (consD (cstC (.int 3)) (consD (cstC (.int 36)) (consD (cstC (.int 8)) (consD (cstC (.int 36)) (consD (cstC (.int 36)) (consD (cstC (.int 36)) (consD (cstC (.int 36)) (consD (cstC (.int 36)) (consD (cstC (.int 36)) (consD (cstC (.int 36)) (consD (cstC (.int 36)) (consD (cstC (.int 840)) nilD)))))))))))))) nilA)))))) (seqS (klS [4, 5] (ifS (qT (andT (cm2 eqR (subC (varC 3) (cstC (.int 0))) (vD (cstC (.int 0)))) (cm2 leI (varC 1) (vD (cstC (.int 12)))))) (seqS (setS 4 (fzE (qE (lstC (consD (cstC (.str "m")) (consD (cstC (.str "ab")) (consD (cstC (.str "a")) (consD (cstC (.str "zebra9")) (consD (cstC (.str "b0")) (consD (cstC (.str "0")) (consD (cstC (.str "abc")) (consD (cstC (.str "9zz")) (consD (cstC (.str "q7q7q7q7")) (consD (cstC (.str "aa")) (consD (cstC (.str "z")) (consD (cstC (.str "a1b2c3d4")) nilD)))))))))))))))) (retS (qE (lcC 5 (itR (dtA (varC 1))) yesT (dtA (subC (varC 4) (dtV (op2 modI (op2 addR (subC (varC 3) (cstC (.int 1))) (op2 mulR (vD (cstC (.int 5))) (varC 5))) (vD (cstC (.int 12))))))))))) nilS)) (seqS (setS 6 (qE (lcC 7 (itF (frV (sliceC (varC 3) (intO (cstC (.int 3))) (intO (cstC (.int 11)))))) yesT (dtA (subC (varC 2) (dtA (varC 7))))))) (seqS (klS [7] (ifS (qT (cm2 eqR (subC (varC 3) (cstC (.int 0))) (vD (cstC (.int 1))))) (setS 6 (qE (sliceC (varC 6) noO (intO (dtV (op2 addR (subC (varC 3) (cstC (.int 2))) (vD (cstC (.int 1))))))))) nilS)) (seqS (setS 7 (fzE (qE (op2 modI (subC (varC 3) (cstC (.int 11))) (op1 lenV (varC 6)))))) (seqS (setS 8 (qE (lstC nilD))) (seqS (klS [2, 3, 5, 6, 7] (forR 5 (dtA (varC 1)) w_l_names_0)) (retS (mvE 8))))))))))
noncomputable def f_l_names : List Rs → Option Rt := bodyF 2 [] 9 b_l_names
noncomputable def b_l_later : FS := (seqS (ifS (qT (cm2 eqR (op2 modI (varC 1) (vD (cstC (.int 8)))) (vD (cstC (.int 0))))) (retS (mvE 0)) nilS) (seqS (setS 4 (fzE (qE (op2 addR (vD (cstC (.int 1))) (op2 modI (varC 2) (subC (frV (lstC (consD (cstC (.int 4)) (consD (cstC (.int 6)) (consD (cstC (.int 60)) (consD (cstC (.int 60)) nilD)))))) (dtA (varC 3)))))))) (seqS (setS 5 (fzE (qE (op2 addR (vD (cstC (.int 1))) (op2 modI (op2 divI (varC 1) (vD (cstC (.int 8)))) (op2 mulR (vD (cstC (.int 2))) (varC 4))))))) (seqS (ifS (qT (cm2 eqR (varC 3) (vD (cstC (.int 3))))) (setS 5 (fzE (qE (op2 addR (vD (cstC (.int 1))) (op2 modI (op2 divI (varC 1) (vD (cstC (.int 8)))) (op2 mulR (vD (cstC (.int 500))) (varC 4))))))) nilS) (retS (qE (callC f_l_low (consA (op2 addR (op2 divI (op2 mulR (subC (varC 0) (cstC (.int 0))) (varC 4)) (subC (varC 0) (cstC (.int 1)))) (varC 5)) (consA (varC 4) nilA)))))))))
noncomputable def f_l_later : List Rs → Option Rt := bodyF 4 [] 6 b_l_later
noncomputable def b_Log___init__ : FS := (seqS (fldS "Log" "rows" (varP 0) (qE (lstC (consD (tupC (consD (dtA (varC 1)) (consD (dtA (varC 2)) (consD (dtA (varC 3)) nilD)))) nilD)))) (fldS "Log" "end" (varP 0) (qE (vD (cstC .none)))))
noncomputable def f_Log___init__ : List Rs → Option Rt := bodyF 4 [true] 4 b_Log___init__
noncomputable def b_l_turned : FS := (seqS (setS 3 (qE (op1 lsR (varC 0)))) (seqS (setS 4 (fzE (qE (vD (dtA (subC (varC 3) (dtV (op1 negR (vD (cstC (.int 1))))))))))) (seqS (setS 5 (fzE (qE (callC f_l_at (consA (varC 4) (consA (varC 1) nilA)))))) (seqS (klS [4] (ifS (qT (cm2 eqR (subC (varC 4) (cstC (.int 0))) (varC 1))) (exprS (lmE popF (varP 3) nilD)) nilS)) (seqS (klS [5] (ifS (qT (orT (cm2 eqR (op1 lenV (varC 3)) (vD (cstC (.int 0)))) (cm2 neR (subC (subC (varC 3) (dtV (op1 negR (vD (cstC (.int 1)))))) (cstC (.int 2))) (varC 2)))) (exprS (lmE appF (varP 3) (consD (tupC (consD (dtA (varC 1)) (consD (dtA (varC 5)) (consD (dtA (varC 2)) nilD)))) nilD))) nilS)) (retS (mvE 3)))))))
noncomputable def f_l_turned : List Rs → Option Rt := bodyF 3 [] 6 b_l_turned
noncomputable def w_l_legrows_0 : FS := (klS [2, 3] (seqS (setS 3 (fzE (qE (vD (dtA (subC (varC 0) (dtA (varC 2)))))))) (seqS (ifS (qT (orT (notT (asB (op1 (isiR "tuple") (varC 3)))) (orT (cm2 neR (op1 lenV (varC 3)) (vD (cstC (.int 3)))) (notT (asB (callC f_l_whole (consA (subC (varC 3) (cstC (.int 2))) nilA))))))) (retS (qE (vD (cstC (.bool false))))) nilS) (klS [3] (ifS (qT (orT (notT (asB (callC f_l_part (consA (subC (varC 3) (cstC (.int 0))) (consA (subC (subC (varC 1) (dtA (varC 2))) (cstC (.int 0))) nilA))))) (orT (notT (asB (callC f_l_part (consA (subC (varC 3) (cstC (.int 1))) (consA (subC (subC (varC 1) (dtA (varC 2))) (cstC (.int 1))) nilA))))) (cm2 neR (varC 3) (subC (varC 1) (dtA (varC 2))))))) (retS (qE (vD (cstC (.bool false))))) nilS)))))
noncomputable def b_l_legrows : FS := (seqS (ifS (qT (orT (notT (asB (op1 (isiR "list") (varC 0)))) (cm2 neR (op1 lenV (varC 0)) (op1 lenV (varC 1))))) (retS (qE (vD (cstC (.bool false))))) nilS) (seqS (klS [2, 3] (forR 2 (dtV (op1 lenV (varC 1))) w_l_legrows_0)) (retS (qE (vD (cstC (.bool true)))))))
noncomputable def f_l_legrows : List Rs → Option Rt := bodyF 2 [] 4 b_l_legrows
noncomputable def b_Log_left : FS := (retS (qE (vD (dtA (sa1 (atR "Log" "end") (varC 0))))))
noncomputable def f_Log_left : List Rs → Option Rt := bodyF 1 [] 1 b_Log_left
noncomputable def b_Log_turn : FS := (seqS (setS 3 (fzE (qE (vD (dtA (subC (sa1 (atR "Log" "rows") (varC 0)) (dtV (op1 negR (vD (cstC (.int 1))))))))))) (seqS (setS 4 (fzE (qE (callC f_place_on (consA (varC 3) (consA (varC 1) nilA)))))) (seqS (klS [3] (ifS (qT (cm2 eqR (subC (varC 3) (cstC (.int 0))) (varC 1))) (exprS (lmE popF (attrP "Log" "rows" (varP 0)) nilD)) nilS)) (seqS (ifS (qT (andT (cm2 gtI (op1 lenV (sa1 (atR "Log" "rows") (varC 0))) (vD (cstC (.int 0)))) (cm2 eqR (subC (subC (sa1 (atR "Log" "rows") (varC 0)) (dtV (op1 negR (vD (cstC (.int 1)))))) (cstC (.int 2))) (varC 2)))) retNS nilS) (exprS (lmE appF (attrP "Log" "rows" (varP 0)) (consD (tupC (consD (dtA (varC 1)) (consD (dtA (varC 4)) (consD (dtA (varC 2)) nilD)))) nilD)))))))
noncomputable def f_Log_turn : List Rs → Option Rt := bodyF 3 [true] 5 b_Log_turn
noncomputable def b_Log_legs : FS := (retS (qE (op1 lsR (sa1 (atR "Log" "rows") (varC 0)))))
noncomputable def f_Log_legs : List Rs → Option Rt := bodyF 1 [] 1 b_Log_legs
noncomputable def w_l_logged_0 : FS := (klS [5, 6, 7] (seqS (setS 6 (fzE (qE (callC f_l_digits (consA (varC 5) (consA (frV (lstC (consD (cstC (.int 400000)) (consD (cstC (.int 60)) (consD (cstC (.int 2001)) nilD))))) nilA)))))) (seqS (setS 4 (fzE (qE (callC f_l_later (consA (varC 4) (consA (subC (varC 6) (cstC (.int 0))) (consA (subC (varC 6) (cstC (.int 1))) (consA (varC 3) nilA)))))))) (seqS (setS 7 (fzE (qE (vD (dtA (subC (frV (lstC (consD (dtV (op2 subI (op2 modI (subC (varC 6) (cstC (.int 2))) (vD (cstC (.int 3)))) (vD (cstC (.int 1))))) (consD (dtV (op2 subI (op2 modI (subC (varC 6) (cstC (.int 2))) (vD (cstC (.int 3)))) (vD (cstC (.int 1))))) (consD (dtV (op2 subI (op2 modI (subC (varC 6) (cstC (.int 2))) (vD (cstC (.int 25)))) (vD (cstC (.int 12))))) (consD (dtV (op2 subI (subC (varC 6) (cstC (.int 2))) (vD (cstC (.int 1000))))) nilD)))))) (dtA (varC 3)))))))) (seqS (klS [6] (ifS (notE (isNE (mmE "Log" "turn" f_Log_turn (varP 0) (consM (varC 4) (consM (varC 7) nilM))))) (retS (qE (vD (cstC .none)))) nilS)) (setS 1 (fzE (qE (callC f_l_turned (consA (varC 1) (consA (varC 4) (consA (varC 7) nilA))))))))))))
noncomputable def b_l_logged : FS := (seqS (klS [5, 6, 7] (forD 5 (dtA (varC 2)) w_l_logged_0)) (retS (qE (vD (tupC (consD (dtA (varC 1)) (consD (dtA (varC 4)) nilD)))))))
noncomputable def f_l_logged : List Rs → Option Rt := bodyF 5 [true] 8 b_l_logged
noncomputable def b_Log_there : FS := (seqS (ifS (qT (asB (callC f_less (consA (varC 1) (consA (subC (subC (sa1 (atR "Log" "rows") (varC 0)) (cstC (.int 0))) (cstC (.int 0))) nilA))))) (retS (qE (vD (cstC (.bool false))))) nilS) (seqS (ifS (qT (cm1 isNR (sa1 (atR "Log" "end") (varC 0)))) (retS (qE (vD (cstC (.bool true))))) nilS) (retS (qE (callC f_less (consA (varC 1) (consA (sa1 (atR "Log" "end") (varC 0)) nilA)))))))
noncomputable def f_Log_there : List Rs → Option Rt := bodyF 2 [] 2 b_Log_there
noncomputable def w_l_held_0 : FS := (klS [3] (ifS (qT (cm2 leI (op2 mulR (subC (subC (varC 3) (cstC (.int 0))) (cstC (.int 0))) (subC (varC 1) (cstC (.int 1)))) (op2 mulR (subC (varC 1) (cstC (.int 0))) (subC (subC (varC 3) (cstC (.int 0))) (cstC (.int 1)))))) (setS 2 (mvE 3)) nilS))
noncomputable def b_l_held : FS := (seqS (setS 2 (qE (vD (dtA (subC (varC 0) (cstC (.int 0))))))) (seqS (klS [3] (forD 3 (dtA (varC 0)) w_l_held_0)) (retS (mvE 2))))
noncomputable def f_l_held : List Rs → Option Rt := bodyF 2 [] 4 b_l_held
noncomputable def b_l_legalike : FS := (seqS (ifS (qT (orT (notT (asB (op1 (isiR "tuple") (varC 0)))) (orT (cm2 neR (op1 lenV (varC 0)) (vD (cstC (.int 3)))) (notT (asB (callC f_l_whole (consA (subC (varC 0) (cstC (.int 2))) nilA))))))) (retS (qE (vD (cstC (.bool false))))) nilS) (retS (qE (bV (andT (asB (callC f_l_part (consA (subC (varC 0) (cstC (.int 0))) (consA (subC (varC 1) (cstC (.int 0))) nilA)))) (andT (asB (callC f_l_part (consA (subC (varC 0) (cstC (.int 1))) (consA (subC (varC 1) (cstC (.int 1))) nilA)))) (cm2 eqR (subC (varC 0) (cstC (.int 2))) (subC (varC 1) (cstC (.int 2))))))))))
noncomputable def f_l_legalike : List Rs → Option Rt := bodyF 2 [] 2 b_l_legalike
noncomputable def w_Log_leg_at_0 : FS := (klS [4] (seqS (setS 4 (fzE (qE (op2 divI (op2 addR (op2 addR (varC 2) (varC 3)) (vD (cstC (.int 1)))) (vD (cstC (.int 2))))))) (klS [4] (ifS (qT (asB (callC f_less (consA (varC 1) (consA (subC (subC (sa1 (atR "Log" "rows") (varC 0)) (dtA (varC 4))) (cstC (.int 0))) nilA))))) (setS 3 (fzE (qE (op2 subI (varC 4) (vD (cstC (.int 1))))))) (setS 2 (fzE (mvE 4)))))))
noncomputable def b_Log_leg_at : FS := (seqS (ifS (qT (notT (asB (methC "Log" "there" f_Log_there (varC 0) (consA (varC 1) nilA))))) (raiseS "NotThere") nilS) (seqS (setS 2 (fzE (qE (vD (cstC (.int 0)))))) (seqS (setS 3 (fzE (qE (op2 subI (op1 lenV (sa1 (atR "Log" "rows") (varC 0))) (vD (cstC (.int 1))))))) (seqS (klS [3, 4] (whileS (cm2 ltR (varC 2) (varC 3)) w_Log_leg_at_0)) (retS (qE (vD (dtA (subC (sa1 (atR "Log" "rows") (varC 0)) (dtA (varC 2)))))))))))
noncomputable def f_Log_leg_at : List Rs → Option Rt := bodyF 2 [] 5 b_Log_leg_at
noncomputable def b_Bells___init__ : FS := (seqS (fldS "Bells" "rows" (varP 0) (qE (lstC nilD))) (fldS "Bells" "due" (varP 0) (qE (cstV (.dtt [])))))
noncomputable def f_Bells___init__ : List Rs → Option Rt := bodyF 1 [true] 1 b_Bells___init__
noncomputable def b_rings_ahead : FS := (seqS (ifS (qT (asB (callC f_less (consA (subC (varC 0) (cstC (.int 0))) (consA (subC (varC 1) (cstC (.int 0))) nilA))))) (retS (qE (vD (cstC (.bool true))))) nilS) (seqS (ifS (qT (asB (callC f_less (consA (subC (varC 1) (cstC (.int 0))) (consA (subC (varC 0) (cstC (.int 0))) nilA))))) (retS (qE (vD (cstC (.bool false))))) nilS) (seqS (ifS (qT (cm2 neR (subC (varC 0) (cstC (.int 1))) (subC (varC 1) (cstC (.int 1))))) (retS (qE (bV (cm2 ltR (subC (varC 0) (cstC (.int 1))) (subC (varC 1) (cstC (.int 1))))))) nilS) (retS (qE (bV (cm2 ltR (subC (varC 0) (cstC (.int 2))) (subC (varC 1) (cstC (.int 2))))))))))
noncomputable def f_rings_ahead : List Rs → Option Rt := bodyF 2 [] 2 b_rings_ahead
noncomputable def w_Bells_spot_0 : FS := (klS [4] (seqS (setS 4 (fzE (qE (op2 divI (op2 addR (varC 2) (varC 3)) (vD (cstC (.int 2))))))) (klS [4] (ifS (qT (asB (callC f_rings_ahead (consA (subC (sa1 (atR "Bells" "rows") (varC 0)) (dtA (varC 4))) (consA (varC 1) nilA))))) (setS 2 (qE (op2 addR (varC 4) (vD (cstC (.int 1)))))) (setS 3 (fzE (mvE 4)))))))
noncomputable def b_Bells_spot : FS := (seqS (setS 2 (qE (vD (cstC (.int 0))))) (seqS (setS 3 (fzE (qE (op1 lenV (sa1 (atR "Bells" "rows") (varC 0)))))) (seqS (klS [3, 4] (whileS (cm2 ltR (varC 2) (varC 3)) w_Bells_spot_0)) (retS (mvE 2)))))
noncomputable def f_Bells_spot : List Rs → Option Rt := bodyF 2 [] 5 b_Bells_spot
noncomputable def b_Bells_drop : FS := (seqS (ifS (qT (cm2 notInR (vD (tupC (consD (dtA (varC 1)) (consD (dtA (varC 2)) nilD)))) (sa1 (atR "Bells" "due") (varC 0)))) (retS (qE (vD (cstC (.bool false))))) nilS) (seqS (setS 3 (fzE (dpopT (attrP "Bells" "due" (varP 0)) (tupC (consD (dtA (varC 1)) (consD (dtA (varC 2)) nilD)))))) (seqS (exprS (lmE popIF (attrP "Bells" "rows" (varP 0)) (consD (dtV (methC "Bells" "spot" f_Bells_spot (varC 0) (consA (vD (tupC (consD (dtA (varC 3)) (consD (dtA (varC 1)) (consD (dtA (varC 2)) nilD))))) nilA))) nilD))) (retS (qE (vD (cstC (.bool true))))))))
noncomputable def f_Bells_drop : List Rs → Option Rt := bodyF 3 [true] 4 b_Bells_drop
noncomputable def b_Bells_put : FS := (seqS (exprS (mmE "Bells" "drop" f_Bells_drop (varP 0) (consM (varC 2) (consM (varC 3) nilM)))) (seqS (setS 4 (fzE (qE (vD (tupC (consD (dtA (varC 1)) (consD (dtA (varC 2)) (consD (dtA (varC 3)) nilD)))))))) (seqS (exprS (lmE insF (attrP "Bells" "rows" (varP 0)) (consD (dtV (methC "Bells" "spot" f_Bells_spot (varC 0) (consA (varC 4) nilA))) (consD (dtA (varC 4)) nilD)))) (dputT (attrP "Bells" "due" (varP 0)) (tupC (consD (dtA (varC 2)) (consD (dtA (varC 3)) nilD))) (dtA (varC 1))))))
noncomputable def f_Bells_put : List Rs → Option Rt := bodyF 4 [true] 5 b_Bells_put
noncomputable def b_Bells_first : FS := (seqS (ifS (qT (cm2 eqR (op1 lenV (sa1 (atR "Bells" "rows") (varC 0))) (vD (cstC (.int 0))))) (retS (qE (vD (cstC .none)))) nilS) (retS (qE (vD (dtA (subC (sa1 (atR "Bells" "rows") (varC 0)) (cstC (.int 0))))))))
noncomputable def f_Bells_first : List Rs → Option Rt := bodyF 1 [] 1 b_Bells_first
noncomputable def b_Bells_take : FS := (seqS (setS 1 (qE (methC "Bells" "first" f_Bells_first (varC 0) nilA))) (seqS (ifS (qT (cm1 notNR (varC 1))) (exprS (mmE "Bells" "drop" f_Bells_drop (varP 0) (consM (subC (varC 1) (cstC (.int 1))) (consM (subC (varC 1) (cstC (.int 2))) nilM)))) nilS) (retS (mvE 1))))
noncomputable def f_Bells_take : List Rs → Option Rt := bodyF 1 [true] 2 b_Bells_take
noncomputable def b_Bells_told : FS := (retS (qE (op1 lsR (sa1 (atR "Bells" "rows") (varC 0)))))
noncomputable def f_Bells_told : List Rs → Option Rt := bodyF 1 [] 1 b_Bells_told
noncomputable def b_l_word : FS := (seqS (ifS (qT (cm1 isNR (varC 1))) (retS (qE (bV (cm1 isNR (varC 0))))) nilS) (retS (qE (bV (andT (asB (op1 (isiR "str") (varC 0))) (cm2 eqR (varC 0) (varC 1)))))))
noncomputable def f_l_word : List Rs → Option Rt := bodyF 2 [] 2 b_l_word
noncomputable def b_l_anydeed : FS := (seqS (setS 2 (fzE (qE (callC f_l_digits (consA (varC 0) (consA (frV (lstC (consD (cstC (.int 8)) (consD (dtV (op2 subI (op2 mulR (vD (cstC (.int 2))) (op2 powI (vD (cstC (.int 10))) (vD (cstC (.int 12))))) (vD (cstC (.int 1))))) (consD (dtV (op2 subI (op2 mulR (vD (cstC (.int 2))) (op2 powI (vD (cstC (.int 10))) (vD (cstC (.int 12))))) (vD (cstC (.int 1))))) (consD (dtV (op2 subI (op2 powI (vD (cstC (.int 10))) (vD (cstC (.int 12)))) (vD (cstC (.int 1))))) (consD (cstC (.int 5)) (consD (cstC (.int 13)) nilD)))))))) nilA)))))) (seqS (setS 3 (fzE (qE (callC f_l_names (consA (varC 1) (consA (vD (cstC (.int 13))) nilA)))))) (seqS (setS 4 (fzE (qE (lstC (consD (dtV (op2 addR (op2 subI (subC (varC 2) (cstC (.int 1))) (op2 powI (vD (cstC (.int 10))) (vD (cstC (.int 12))))) (vD (cstC (.int 1))))) (consD (dtV (op2 addR (op2 subI (subC (varC 2) (cstC (.int 2))) (op2 powI (vD (cstC (.int 10))) (vD (cstC (.int 12))))) (vD (cstC (.int 1))))) nilD)))))) (seqS (ifS (qT (cm2 ltR (subC (varC 2) (cstC (.int 4))) (vD (cstC (.int 3))))) (setS 4 (fzE (qE (lstC (consD (dtV (op2 subI (op2 modI (subC (varC 2) (cstC (.int 1))) (vD (cstC (.int 2000003)))) (vD (cstC (.int 1000001))))) (consD (dtV (op2 subI (op2 modI (subC (varC 2) (cstC (.int 2))) (vD (cstC (.int 2003)))) (vD (cstC (.int 1001))))) nilD)))))) nilS) (seqS (ifS (qT (cm2 eqR (subC (varC 2) (cstC (.int 4))) (vD (cstC (.int 0))))) (setS 4 (fzE (qE (lstC (consD (dtV (op2 subI (op2 modI (subC (varC 2) (cstC (.int 1))) (vD (cstC (.int 19)))) (vD (cstC (.int 9))))) (consD (dtV (op2 subI (op2 modI (subC (varC 2) (cstC (.int 2))) (vD (cstC (.int 7)))) (vD (cstC (.int 3))))) nilD)))))) nilS) (seqS (ifS (qT (cm2 ltR (subC (varC 2) (cstC (.int 0))) (vD (cstC (.int 2))))) (retS (qE (vD (tupC (consD (cstC (.str "join")) (consD (dtA (subC (varC 3) (cstC (.int 0)))) (consD (dtA (subC (varC 4) (cstC (.int 0)))) (consD (dtA (subC (varC 4) (cstC (.int 1)))) nilD)))))))) nilS) (seqS (ifS (qT (cm2 eqR (subC (varC 2) (cstC (.int 0))) (vD (cstC (.int 2))))) (retS (qE (vD (tupC (consD (cstC (.str "turn")) (consD (dtA (subC (varC 3) (dtA (subC (varC 2) (cstC (.int 5)))))) (consD (dtA (subC (varC 4) (cstC (.int 1)))) nilD))))))) nilS) (seqS (ifS (qT (cm2 eqR (subC (varC 2) (cstC (.int 0))) (vD (cstC (.int 3))))) (retS (qE (vD (tupC (consD (cstC (.str "leave")) (consD (dtA (subC (varC 3) (dtA (subC (varC 2) (cstC (.int 5)))))) nilD)))))) nilS) (seqS (ifS (qT (cm2 eqR (subC (varC 2) (cstC (.int 0))) (vD (cstC (.int 4))))) (retS (qE (vD (tupC (consD (cstC (.str "about")) nilD))))) nilS) (seqS (ifS (qT (cm2 eqR (subC (varC 2) (cstC (.int 0))) (vD (cstC (.int 5))))) (retS (qE (vD (tupC (consD (cstC (.str "watch")) (consD (dtA (subC (varC 3) (cstC (.int 0)))) (consD (dtV (op1 tpR (frV (sliceC (varC 3) (intO (cstC (.int 1))) (intO (dtV (op2 addR (vD (cstC (.int 1))) (subC (varC 2) (cstC (.int 5)))))))))) nilD))))))) nilS) (seqS (klS [3] (ifS (qT (cm2 eqR (subC (varC 2) (cstC (.int 0))) (vD (cstC (.int 6))))) (retS (qE (vD (tupC (consD (cstC (.str "unwatch")) (consD (dtA (subC (varC 3) (dtA (subC (varC 2) (cstC (.int 5)))))) nilD)))))) nilS)) (retS (qE (vD (tupC (consD (cstC (.str "go")) (consD (dtV (callC f_l_low (consA (op1 absR (subC (varC 4) (cstC (.int 0)))) (consA (op2 addR (vD (cstC (.int 1))) (op2 modI (subC (varC 2) (cstC (.int 3))) (subC (frV (lstC (consD (cstC (.int 60)) (consD (cstC (.int 64)) (consD (cstC (.int 1000)) (consD (cstC (.int 7)) (consD (dtV (op2 subI (op2 powI (vD (cstC (.int 10))) (vD (cstC (.int 12)))) (vD (cstC (.int 1))))) nilD))))))) (dtA (subC (varC 2) (cstC (.int 4))))))) nilA)))) nilD)))))))))))))))))
noncomputable def f_l_anydeed : List Rs → Option Rt := bodyF 2 [] 5 b_l_anydeed
noncomputable def b_line_of : FS := (seqS (setS 1 (fzE (qE (vD (dtA (subC (varC 0) (cstC (.int 0)))))))) (seqS (ifS (qT (cm2 eqR (varC 1) (vD (cstC (.str "go"))))) (retS (qE (jonC [(cstC (.str "go ")), (fmtD (dtA (subC (subC (varC 0) (cstC (.int 1))) (cstC (.int 0))))), (cstC (.str "/")), (fmtD (dtA (subC (subC (varC 0) (cstC (.int 1))) (cstC (.int 1)))))]))) nilS) (seqS (klS [1] (ifS (qT (cm2 eqR (varC 1) (vD (cstC (.str "watch"))))) (retS (qE (joinC (cstC (.str " ")) (op2 addR (frV (lstC (consD (dtA (varC 1)) (consD (dtA (subC (varC 0) (cstC (.int 1)))) nilD)))) (frV (op1 lsR (subC (varC 0) (cstC (.int 2))))))))) nilS)) (retS (qE (joinC (cstC (.str " ")) (frV (lcC 2 (itF (varC 0)) yesT (dtV (op1 stR (varC 2)))))))))))
noncomputable def f_line_of : List Rs → Option Rt := bodyF 1 [] 3 b_line_of
noncomputable def w_l_line_0 : FS := (klS [2] (setS 1 (qE (op2 addR (op2 addR (varC 1) (vD (cstC (.str " ")))) (varC 2)))))
noncomputable def w_l_line_1 : FS := (klS [3] (setS 1 (qE (op2 addR (op2 addR (varC 1) (vD (cstC (.str " ")))) (op1 stR (subC (varC 0) (dtA (varC 3))))))))
noncomputable def b_l_line : FS := (seqS (ifS (qT (cm2 eqR (subC (varC 0) (cstC (.int 0))) (vD (cstC (.str "go"))))) (retS (qE (op2 addR (op2 addR (op2 addR (vD (cstC (.str "go "))) (op1 stR (subC (subC (varC 0) (cstC (.int 1))) (cstC (.int 0))))) (vD (cstC (.str "/")))) (op1 stR (subC (subC (varC 0) (cstC (.int 1))) (cstC (.int 1))))))) nilS) (seqS (setS 1 (qE (vD (dtA (subC (varC 0) (cstC (.int 0))))))) (seqS (klS [2] (ifS (qT (cm2 eqR (subC (varC 0) (cstC (.int 0))) (vD (cstC (.str "watch"))))) (seqS (setS 1 (qE (op2 addR (op2 addR (varC 1) (vD (cstC (.str " ")))) (subC (varC 0) (cstC (.int 1)))))) (seqS (klS [2] (forD 2 (dtA (subC (varC 0) (cstC (.int 2)))) w_l_line_0)) (retS (mvE 1)))) nilS)) (seqS (klS [3] (forR2 3 (cstC (.int 1)) (dtV (op1 lenV (varC 0))) w_l_line_1)) (retS (mvE 1))))))
noncomputable def f_l_line : List Rs → Option Rt := bodyF 1 [] 4 b_l_line
noncomputable def b_name_of : FS := (seqS (ifS (qT (notT (asB (callC f_good_name (consA (varC 0) nilA))))) (raiseS "NoTale") nilS) (retS (mvE 0)))
noncomputable def f_name_of : List Rs → Option Rt := bodyF 1 [] 1 b_name_of
noncomputable def w_whole_of_0 : FS := (klS [2] (ifS (qT (cm2 notInR (varC 2) (vD (cstC (.str "0123456789"))))) (raiseS "NoTale") nilS))
noncomputable def b_whole_of : FS := (seqS (setS 1 (fzE (mvE 0))) (seqS (ifS (qT (cm2 eqR (frV (sliceC (varC 0) noO (intO (cstC (.int 1))))) (vD (cstC (.str "-"))))) (setS 1 (fzE (qE (sliceC (varC 0) (intO (cstC (.int 1))) noO)))) nilS) (seqS (ifS (qT (orT (cm2 ltR (op1 lenV (varC 1)) (vD (cstC (.int 1)))) (cm2 gtI (op1 lenV (varC 1)) (vD (cstC (.int 12)))))) (raiseS "NoTale") nilS) (seqS (klS [2] (forV 2 1 w_whole_of_0)) (seqS (klS [1] (ifS (qT (andT (cm2 eqR (subC (varC 1) (cstC (.int 0))) (vD (cstC (.str "0")))) (cm2 neR (varC 0) (vD (cstC (.str "0")))))) (raiseS "NoTale") nilS)) (retS (qE (op1 itR1 (varC 0)))))))))
noncomputable def f_whole_of : List Rs → Option Rt := bodyF 1 [] 3 b_whole_of
noncomputable def b_moment_of : FS := (seqS (setS 1 (fzE (qE (splC (dtA (varC 0)) (cstC (.str "/")))))) (seqS (ifS (qT (cm2 neR (op1 lenV (varC 1)) (vD (cstC (.int 2))))) (raiseS "NoTale") nilS) (seqS (setS 2 (fzE (qE (callC f_whole_of (consA (subC (varC 1) (cstC (.int 0))) nilA))))) (seqS (setS 3 (fzE (qE (callC f_whole_of (consA (subC (varC 1) (cstC (.int 1))) nilA))))) (seqS (klS [1] (ifS (qT (orT (cm2 ltR (varC 2) (vD (cstC (.int 0)))) (orT (cm2 ltR (varC 3) (vD (cstC (.int 1)))) (cm2 neR (frV (callC f_shared (consA (varC 2) (consA (varC 3) nilA)))) (vD (cstC (.int 1))))))) (raiseS "NoTale") nilS)) (retS (qE (vD (tupC (consD (dtA (varC 2)) (consD (dtA (varC 3)) nilD)))))))))))
noncomputable def f_moment_of : List Rs → Option Rt := bodyF 1 [] 4 b_moment_of
noncomputable def b_deed_of : FS := (seqS (setS 1 (fzE (qE (splC (dtA (varC 0)) (cstC (.str " ")))))) (seqS (setS 2 (fzE (qE (vD (dtA (subC (varC 1) (cstC (.int 0)))))))) (seqS (setS 3 (fzE (qE (op1 lenV (varC 1))))) (seqS (ifS (qT (andT (cm2 eqR (varC 2) (vD (cstC (.str "about")))) (cm2 eqR (varC 3) (vD (cstC (.int 1)))))) (retS (qE (vD (tupC (consD (dtA (varC 2)) nilD))))) nilS) (seqS (ifS (qT (andT (cm2 eqR (varC 2) (vD (cstC (.str "join")))) (cm2 eqR (varC 3) (vD (cstC (.int 4)))))) (retS (qE (vD (tupC (consD (dtA (varC 2)) (consD (dtV (callC f_name_of (consA (subC (varC 1) (cstC (.int 1))) nilA))) (consD (dtV (callC f_whole_of (consA (subC (varC 1) (cstC (.int 2))) nilA))) (consD (dtV (callC f_whole_of (consA (subC (varC 1) (cstC (.int 3))) nilA))) nilD)))))))) nilS) (seqS (ifS (qT (andT (cm2 eqR (varC 2) (vD (cstC (.str "turn")))) (cm2 eqR (varC 3) (vD (cstC (.int 3)))))) (retS (qE (vD (tupC (consD (dtA (varC 2)) (consD (dtV (callC f_name_of (consA (subC (varC 1) (cstC (.int 1))) nilA))) (consD (dtV (callC f_whole_of (consA (subC (varC 1) (cstC (.int 2))) nilA))) nilD))))))) nilS) (seqS (ifS (qT (andT (cm2 eqR (varC 2) (vD (cstC (.str "go")))) (cm2 eqR (varC 3) (vD (cstC (.int 2)))))) (retS (qE (vD (tupC (consD (dtA (varC 2)) (consD (dtV (callC f_moment_of (consA (subC (varC 1) (cstC (.int 1))) nilA))) nilD)))))) nilS) (seqS (ifS (qT (andT (cm2 inSR (varC 2) (vD (tupC (consD (cstC (.str "leave")) (consD (cstC (.str "unwatch")) nilD))))) (cm2 eqR (varC 3) (vD (cstC (.int 2)))))) (retS (qE (vD (tupC (consD (dtA (varC 2)) (consD (dtV (callC f_name_of (consA (subC (varC 1) (cstC (.int 1))) nilA))) nilD)))))) nilS) (seqS (klS [1, 2, 3, 4, 5] (ifS (qT (andT (cm2 eqR (varC 2) (vD (cstC (.str "watch")))) (cm2 geI (varC 3) (vD (cstC (.int 2)))))) (seqS (setS 4 (fzE (qE (lcC 5 (itF (frV (sliceC (varC 1) (intO (cstC (.int 2))) noO))) yesT (dtV (callC f_name_of (consA (varC 5) nilA))))))) (retS (qE (vD (tupC (consD (dtA (varC 2)) (consD (dtV (callC f_name_of (consA (subC (varC 1) (cstC (.int 1))) nilA))) (consD (dtV (op1 tpR (varC 4))) nilD)))))))) nilS)) (raiseS "NoTale"))))))))))
noncomputable def f_deed_of : List Rs → Option Rt := bodyF 1 [] 6 b_deed_of
noncomputable def w_l_deedalike_0 : FS := (klS [2] (ifS (qT (notT (asB (callC f_l_whole (consA (subC (varC 0) (dtA (varC 2))) nilA))))) (retS (qE (vD (cstC (.bool false))))) nilS))
noncomputable def b_l_deedalike : FS := (seqS (ifS (qT (orT (notT (asB (op1 (isiR "tuple") (varC 0)))) (orT (cm2 neR (op1 lenV (varC 0)) (op1 lenV (varC 1))) (cm2 neR (varC 0) (varC 1))))) (retS (qE (vD (cstC (.bool false))))) nilS) (seqS (ifS (qT (cm2 eqR (subC (varC 1) (cstC (.int 0))) (vD (cstC (.str "go"))))) (retS (qE (callC f_l_part (consA (subC (varC 0) (cstC (.int 1))) (consA (subC (varC 1) (cstC (.int 1))) nilA))))) nilS) (seqS (ifS (qT (cm2 eqR (subC (varC 1) (cstC (.int 0))) (vD (cstC (.str "watch"))))) (retS (qE (op1 (isiR "tuple") (subC (varC 0) (cstC (.int 2)))))) nilS) (seqS (klS [2] (forR2 2 (cstC (.int 2)) (dtV (op1 lenV (varC 1))) w_l_deedalike_0)) (retS (qE (op1 (isiR "str") (subC (varC 0) (cstC (.int 0))))))))))
noncomputable def f_l_deedalike : List Rs → Option Rt := bodyF 2 [] 3 b_l_deedalike
noncomputable def b_law_k52 : FS := (seqS (setS 1 (fzE (qE (callC f_l_anydeed (consA (frV (callC f_l_cell (consA (varC 0) (consA (vD (cstC (.int 0))) nilA)))) (consA (frV (callC f_l_cell (consA (varC 0) (consA (vD (cstC (.int 1))) nilA)))) nilA)))))) (seqS (setS 2 (fzE (qE (callC f_l_line (consA (varC 1) nilA))))) (seqS (setS 3 (fzE (qE (callC f_deed_of (consA (varC 2) nilA))))) (retS (qE (bV (andT (asB (callC f_l_deedalike (consA (varC 3) (consA (varC 1) nilA)))) (cm2 eqR (frV (callC f_line_of (consA (varC 3) nilA))) (varC 2)))))))))
noncomputable def f_law_k52 : List Rs → Option Rt := bodyF 1 [] 4 b_law_k52
end Sm

/-! Plain mathematics: fractions, sizes, draws. -/
namespace Sm
open PySem L2 Cg
/-! ### fractions as data -/
def qD (q : Rat) : PyData := .tuple [.int q.num, .int q.den]
theorem natAbs_gcd_pos {a b : Int} (hb : 0 < b) : 0 < Int.gcd a b := Int.gcd_pos_of_ne_zero_right _ (by omega)
theorem qD_low {a b : Int} (hb : 0 < b) : PyData.tuple [.int (a / (Int.gcd a b : Int)), .int (b / (Int.gcd a b : Int))] = qD ((a : Rat) / (b : Rat)) := by
  rw [← Rat.divInt_eq_div]
  unfold qD
  rw [Rat.num_divInt, Rat.den_divInt, Int.sign_eq_one_of_pos hb, Int.one_mul, if_neg (by omega), Int.gcd_comm b a]
  have e : ((b.natAbs / Int.gcd a b : Nat) : Int) = b / (Int.gcd a b : Int) := by
    rw [Int.natCast_ediv]
    congr 1
    omega
  rw [e]
/-- numerator and denominator below 2 ^ n -/
def Sz (n : Nat) (q : Rat) : Prop := q.num.natAbs < 2 ^ n ∧ q.den < 2 ^ n
theorem Sz.mono {n m : Nat} {q : Rat} (h : Sz n q) (hm : n ≤ m) : Sz m q := by
  have : 2 ^ n ≤ 2 ^ m := Nat.pow_le_pow_right (by decide) hm
  exact ⟨Nat.lt_of_lt_of_le h.1 this, Nat.lt_of_lt_of_le h.2 this⟩
theorem Sz.div {n : Nat} {a b : Int} (hb : 0 < b) (ha : a.natAbs < 2 ^ n) (hb' : b.natAbs < 2 ^ n) : Sz n ((a : Rat) / (b : Rat)) := by
  rw [← Rat.divInt_eq_div]
  unfold Sz
  rw [Rat.num_divInt, Rat.den_divInt, Int.sign_eq_one_of_pos hb, Int.one_mul, if_neg (by omega)]
  refine ⟨Nat.lt_of_le_of_lt ?_ ha, Nat.lt_of_le_of_lt (Nat.div_le_self _ _) hb'⟩
  have hd : ((b.gcd a : Nat) : Int) ∣ a := Int.gcd_dvd_right ..
  rw [Int.natAbs_ediv_of_dvd hd]
  exact Nat.div_le_self _ _
theorem rat_eq (q : Rat) : q = (q.num : Rat) / ((q.den : Int) : Rat) := by
  rw [← Rat.divInt_eq_div, Rat.num_divInt_den]
theorem den_pos (q : Rat) : (0 : Int) < q.den := by have := q.den_nz; omega
theorem den_ne (q : Rat) : ((q.den : Int) : Rat) ≠ 0 := by
  have := q.den_nz
  intro h
  have : (q.den : Int) = 0 := by exact_mod_cast h
  omega
theorem f_add {a b c d : Rat} (hb : b ≠ 0) (hd : d ≠ 0) : a / b + c / d = (a * d + c * b) / (b * d) := by grind
theorem f_sub {a b c d : Rat} (hb : b ≠ 0) (hd : d ≠ 0) : a / b - c / d = (a * d - c * b) / (b * d) := by grind
theorem f_mid {a b c d : Rat} (hb : b ≠ 0) (hd : d ≠ 0) : (a / b + c / d) / 2 = (a * d + c * b) / (2 * b * d) := by grind
theorem f_mul {a b k : Rat} : a / b * k = a * k / b := by grind
theorem rat_add (p q : Rat) : p + q = ((p.num * q.den + q.num * p.den : Int) : Rat) / ((p.den * q.den : Int) : Rat) := by
  conv => lhs; rw [rat_eq p, rat_eq q]
  rw [Rat.intCast_add, Rat.intCast_mul, Rat.intCast_mul, Rat.intCast_mul]
  exact f_add (den_ne p) (den_ne q)
theorem rat_sub (p q : Rat) : p - q = ((p.num * q.den - q.num * p.den : Int) : Rat) / ((p.den * q.den : Int) : Rat) := by
  conv => lhs; rw [rat_eq p, rat_eq q]
  rw [Rat.intCast_sub, Rat.intCast_mul, Rat.intCast_mul, Rat.intCast_mul]
  exact f_sub (den_ne p) (den_ne q)
theorem rat_muli (p : Rat) (k : Int) : p * k = ((p.num * k : Int) : Rat) / ((p.den : Int) : Rat) := by
  conv => lhs; rw [rat_eq p]
  rw [Rat.intCast_mul]
  exact f_mul
theorem rat_mid (p q : Rat) : (p + q) / 2 = ((p.num * q.den + q.num * p.den : Int) : Rat) / ((2 * p.den * q.den : Int) : Rat) := by
  conv => lhs; rw [rat_eq p, rat_eq q]
  rw [Rat.intCast_add, Rat.intCast_mul, Rat.intCast_mul, Rat.intCast_mul, Rat.intCast_mul]
  exact f_mid (den_ne p) (den_ne q)
/-! ### sizes -/
theorem nlt_mul {a b : Int} {n m : Nat} (ha : a.natAbs < 2 ^ n) (hb : b.natAbs < 2 ^ m) : (a * b).natAbs < 2 ^ (n + m) := wide_lt ha hb
theorem nlt_add {a b : Int} {n : Nat} (ha : a.natAbs < 2 ^ n) (hb : b.natAbs < 2 ^ n) : (a + b).natAbs < 2 ^ (n + 1) := by
  rw [Nat.pow_succ]; omega
theorem nlt_sub {a b : Int} {n : Nat} (ha : a.natAbs < 2 ^ n) (hb : b.natAbs < 2 ^ n) : (a - b).natAbs < 2 ^ (n + 1) := by
  rw [Nat.pow_succ]; omega
theorem nlt_mono {a : Int} {n m : Nat} (ha : a.natAbs < 2 ^ n) (h : n ≤ m) : a.natAbs < 2 ^ m := Nat.lt_of_lt_of_le ha (Nat.pow_le_pow_right (by decide) h)
theorem cmul_of {a b : Int} {n m : Nat} (ha : a.natAbs < 2 ^ n) (hb : b.natAbs < 2 ^ m) (h : n + m ≤ 900000) : CMulW a b :=
  wide_mul (a := n + 1) (b := m + 1) (nlt_mono ha (by omega)) (nlt_mono hb (by omega)) (by omega) (by omega) (by omega)
theorem cdiv_of {a b : Int} {m : Nat} (h : 0 < b) (hb : b.natAbs < 2 ^ m) (hm : m ≤ 8000) : CDivW a b :=
  wide_div (b := m + 1) h (nlt_mono hb (by omega)) (by omega) (by omega)
theorem Sz.num {n : Nat} {q : Rat} (h : Sz n q) : q.num.natAbs < 2 ^ n := h.1
theorem Sz.den {n : Nat} {q : Rat} (h : Sz n q) : ((q.den : Nat) : Int).natAbs < 2 ^ n := h.2
theorem Sz.add {n m : Nat} {p q : Rat} (h1 : Sz n p) (h2 : Sz m q) : Sz (n + m + 1) (p + q) := by
  rw [rat_add]
  have a := nlt_mul h1.num h2.den
  have b := nlt_mul h2.num h1.den
  rw [Nat.add_comm m n] at b
  exact Sz.div (Int.mul_pos (den_pos p) (den_pos q)) (nlt_add a b) (nlt_mono (nlt_mul h1.den h2.den) (by omega))
theorem Sz.sub {n m : Nat} {p q : Rat} (h1 : Sz n p) (h2 : Sz m q) : Sz (n + m + 1) (p - q) := by
  rw [rat_sub]
  have a := nlt_mul h1.num h2.den
  have b := nlt_mul h2.num h1.den
  rw [Nat.add_comm m n] at b
  exact Sz.div (Int.mul_pos (den_pos p) (den_pos q)) (nlt_sub a b) (nlt_mono (nlt_mul h1.den h2.den) (by omega))
theorem Sz.muli {n m : Nat} {p : Rat} {k : Int} (h1 : Sz n p) (h2 : k.natAbs < 2 ^ m) : Sz (n + m) (p * k) := by
  rw [rat_muli]
  exact Sz.div (den_pos p) (nlt_mul h1.num h2) (nlt_mono h1.den (by omega))
/-! ### the laws' draws -/
def cell (ns : List Int) (k : Nat) : Int := if h : k < ns.length then ns[k] else 5 + 17 * (k : Int)
def dgA : Int → List Int → List Int
  | _, [] => []
  | r, t :: ts => r % t :: dgA (r / t) ts
def dgOne (one : Int) (k : Nat) : Int := (one * 48271 + 10007 * ((k : Int) + 1)) % 2147483629
def dgTwo (one : Int) (k : Nat) : Int := (one * one + 69621 * one + (k : Int)) % 2147483563
def dgB : Int → Nat → List Int → List Int
  | _, _, [] => []
  | one, k, t :: ts => dgTwo (dgOne one k) k / 11 % t :: dgB (dgOne one k) (k + 1) ts
def digits (c : Int) (ss : List Int) : List Int := if 1000000000000000000 ≤ c then dgA (c - 1000000000000000000) ss else dgB (c % 2147483647) 0 ss
theorem dg_one (one : Int) (k : Nat) : 0 ≤ dgOne one k ∧ dgOne one k < 2147483629 := ⟨Int.emod_nonneg _ (by decide), Int.emod_lt_of_pos _ (by decide)⟩
theorem dg_two (one : Int) (k : Nat) : 0 ≤ dgTwo one k ∧ dgTwo one k < 2147483563 := ⟨Int.emod_nonneg _ (by decide), Int.emod_lt_of_pos _ (by decide)⟩
/-- each is below its size -/
inductive Below : List Int → List Int → Prop
  | nil : Below [] []
  | cons {x t : Int} {xs ts : List Int} : 0 ≤ x → x < t → Below xs ts → Below (x :: xs) (t :: ts)
theorem dgA_below : ∀ (ts : List Int) (r : Int), (∀ t ∈ ts, 0 < t) → Below (dgA r ts) ts
  | [], _, _ => .nil
  | t :: ts, r, h => .cons (Int.emod_nonneg _ (by have := h t (by simp); omega)) (Int.emod_lt_of_pos _ (h t (by simp))) (dgA_below ts _ fun t' m => h t' (by simp [m]))
theorem dgB_below : ∀ (ts : List Int) (r : Int) (k : Nat), (∀ t ∈ ts, 0 < t) → Below (dgB r k ts) ts
  | [], _, _, _ => .nil
  | t :: ts, r, k, h => .cons (Int.emod_nonneg _ (by have := h t (by simp); omega)) (Int.emod_lt_of_pos _ (h t (by simp))) (dgB_below ts _ _ fun t' m => h t' (by simp [m]))
theorem digits_below (c : Int) (ts : List Int) (h : ∀ t ∈ ts, 0 < t) : Below (digits c ts) ts := by
  unfold digits
  split
  · exact dgA_below ts _ h
  · exact dgB_below ts _ _ h
theorem below_len : ∀ {xs ts : List Int}, Below xs ts → xs.length = ts.length
  | _, _, .nil => rfl
  | _, _, .cons _ _ h => by simp [below_len h]
theorem below_cons {xs ts : List Int} {t : Int} (h : Below xs (t :: ts)) : ∃ x ys, xs = x :: ys ∧ 0 ≤ x ∧ x < t ∧ Below ys ts := by
  cases h with | cons a b c => exact ⟨_, _, rfl, a, b, c⟩
theorem below_nil {xs : List Int} (h : Below xs []) : xs = [] := by cases h; rfl
theorem k_int_int : kitB "int" "int" = some true := by decide +kernel
theorem k_int_bool : kitB "int" "bool" = some false := by decide +kernel
theorem k_bool_int : kitB "bool" "int" = some true := by decide +kernel
theorem k_bool_bool : kitB "bool" "bool" = some true := by decide +kernel
theorem k_tuple_tuple : kitB "tuple" "tuple" = some true := by decide +kernel
theorem k_list_list : kitB "list" "list" = some true := by decide +kernel
theorem k_str_str : kitB "str" "str" = some true := by decide +kernel
theorem nlt_addm {a b : Int} {n m : Nat} (ha : a.natAbs < 2 ^ n) (hb : b.natAbs < 2 ^ m) : (a + b).natAbs < 2 ^ (max n m + 1) := nlt_add (nlt_mono ha (by omega)) (nlt_mono hb (by omega))
theorem nlt_subm {a b : Int} {n m : Nat} (ha : a.natAbs < 2 ^ n) (hb : b.natAbs < 2 ^ m) : (a - b).natAbs < 2 ^ (max n m + 1) := nlt_sub (nlt_mono ha (by omega)) (nlt_mono hb (by omega))
theorem nlt_neg {a : Int} {n : Nat} (ha : a.natAbs < 2 ^ n) : (-a).natAbs < 2 ^ n := by rw [Int.natAbs_neg]; exact ha
theorem nlt_abs {a : Int} {n : Nat} (ha : a.natAbs < 2 ^ n) : ((a.natAbs : Nat) : Int).natAbs < 2 ^ n := ha
theorem sz_int {n : Nat} {k : Int} (h : k.natAbs < 2 ^ n) (hn : 1 ≤ n := by decide) : Sz n (k : Rat) := by
  refine ⟨by rw [Rat.num_intCast]; exact h, ?_⟩
  rw [Rat.den_intCast]
  exact Nat.lt_of_lt_of_le (by decide) (Nat.pow_le_pow_right (by decide) hn)
theorem qD_frac_neg {a b : Int} (hb : b < 0) : PyData.tuple [.int (-a / (Int.gcd (-a) (-b) : Int)), .int (-b / (Int.gcd (-a) (-b) : Int))] = qD ((a : Rat) / (b : Rat)) := by
  rw [qD_low (by omega : 0 < -b)]
  congr 1
  rw [Rat.intCast_neg, Rat.intCast_neg]
  have : (b : Rat) ≠ 0 := by
    intro h
    have : b = 0 := by exact_mod_cast h
    omega
  grind
theorem gcd_lt {a b : Int} {n : Nat} (h : b ≠ 0) (hb : b.natAbs < 2 ^ n) : ((Int.gcd a b : Nat) : Int).natAbs < 2 ^ n :=
  Nat.lt_of_le_of_lt (Nat.le_of_dvd (by omega) (by have := Int.gcd_dvd_natAbs_right a b; simpa using this)) hb
theorem gcd_pos {a b : Int} (h : b ≠ 0) : (0 : Int) < (Int.gcd a b : Nat) := by
  have := Int.gcd_pos_of_ne_zero_right a h
  omega
theorem eqv_qD (p : Rat) : PyData.eqv (qD p) (qD p) = true := by
  simp [qD, PyData.eqv, PyData.eqvAll]
theorem shaped_qD (p : Rat) : SeqAt.shaped (qD p) = true := rfl
theorem eqv_qD' (p q : Rat) : PyData.eqv (qD p) (qD q) = decide (p = q) := by
  have e : PyData.eqv (qD p) (qD q) = (decide (p.num = q.num) && decide ((p.den : Int) = (q.den : Int))) := by
    simp only [qD, PyData.eqv, PyData.eqvAll, Bool.and_true, Bool.beq_eq_decide_eq]
  rw [e]
  by_cases h : p = q
  · subst h; simp
  · rw [decide_eq_false h]
    have : ¬ (p.num = q.num ∧ (p.den : Int) = (q.den : Int)) := fun ⟨h1, h2⟩ => h (Rat.ext h1 (by omega))
    simpa using this
end Sm

/-! How the words compute. -/
namespace Sm
open PySem L2 Cg
section
variable (ρ : En) (s s1 s2 : FS) (sa sb sc : FE) (sd sd' : FD) (ss : En → Option (Rz (List PyData))) (sr : En → Option (Rz (List Rs))) (se : En → Option Oe) (t t' : En → Option Bool) (te te' : En → Option (Bool × En)) (i j : Nat) (sp : FP) (sm : FM) (cn m : Str) (F : List Rs → Option Rt)
@[simp] theorem ev_seqS : seqS s1 s2 ρ = (match s1 ρ with
  | some (.nx ρ1) => s2 ρ1
  | r => r) := rfl
@[simp] theorem ev_nilS : nilS ρ = some (.nx ρ) := rfl
@[simp] theorem ev_setS : setS i se ρ = (match se ρ with
  | some (.ok x ρ1) => if i < ρ1.length then some (.nx (put ρ1 i (.ow x))) else none
  | some (.ex c ρ1) => some (.ex c ρ1)
  | none => none) := rfl
@[simp] theorem ev_exprS : exprS se ρ = (match se ρ with
  | some (.ok _ ρ1) => some (.nx ρ1)
  | some (.ex c ρ1) => some (.ex c ρ1)
  | none => none) := rfl
@[simp] theorem ev_retS : retS se ρ = (match se ρ with
  | some (.ok x ρ1) => some (.rt x ρ1)
  | some (.ex c ρ1) => some (.ex c ρ1)
  | none => none) := rfl
@[simp] theorem ev_retNS : retNS ρ = some (.rt (.da .none) ρ) := rfl
@[simp] theorem ev_brkS : brkS ρ = some (.bk ρ) := rfl
@[simp] theorem ev_cntS : cntS ρ = some (.ct ρ) := rfl
@[simp] theorem ev_raiseS : raiseS cn ρ = some (.ex cn ρ) := rfl
@[simp] theorem ev_ifS : ifS te s1 s2 ρ = (match te ρ with
  | some (true, ρ1) => s1 ρ1
  | some (false, ρ1) => s2 ρ1
  | none => none) := rfl
@[simp] theorem ev_qT : qT t ρ = (t ρ).map fun b => (b, ρ) := rfl
@[simp] theorem ev_qE : qE sa ρ = (match sa ρ with
  | some (.ok x) => some (.ok x ρ)
  | some (.ex c) => some (.ex c ρ)
  | none => none) := rfl
@[simp] theorem ev_fzE : fzE se ρ = (match se ρ with
  | some (.ok (.lst ds) ρ1) => some (.ok (.da (.list ds)) ρ1)
  | r => r) := rfl
@[simp] theorem ev_frV : frV sa ρ = (match sa ρ with
  | some (.ok (.lst ds)) => some (.ok (.da (.list ds)))
  | r => r) := rfl
@[simp] theorem ev_mvE : mvE i ρ = (match ρ[i]? with
  | some (.ow (.da d)) => some (.ok (.da d) ρ)
  | some (.ow r) => some (.ok r (ρ.set i .un))
  | some (.bo (.da d)) => some (.ok (.da d) ρ)
  | _ => none) := rfl
@[simp] theorem ev_varC : varC i ρ = (trOf ρ i).map .ok := rfl
@[simp] theorem ev_trOf : trOf ρ j = (match ρ[j]? with
  | some (.ow r) => some r
  | some (.bo r) => some r
  | some (.al i π) => (match ρ[i]? with
    | some (.ow r) => getP r π
    | _ => none)
  | _ => none) := rfl
@[simp] theorem ev_cstC (d : PyData) : cstC d ρ = some (.ok d) := rfl
@[simp] theorem ev_cstV (d : Rs) : cstV d ρ = some (.ok d) := rfl
@[simp] theorem ev_vD : vD sd ρ = (match sd ρ with
  | some (.ok d) => some (.ok (.da d))
  | some (.ex c) => some (.ex c)
  | none => none) := rfl
@[simp] theorem ev_dtA : dtA sa ρ = (match sa ρ with
  | some (.ok (.da d)) => some (.ok d)
  | some (.ex c) => some (.ex c)
  | _ => none) := rfl
@[simp] theorem ev_dtV : dtV sa ρ = (match sa ρ with
  | some (.ok (.da d)) => some (.ok d)
  | some (.ok (.lst ds)) => some (.ok (.list ds))
  | some (.ex c) => some (.ex c)
  | _ => none) := rfl
@[simp] theorem ev_okk {α : Type} (a : α) : okk (some (Rz.ok a)) = some a := rfl
@[simp] theorem ev_okk0 {α : Type} : okk (none : Option (Rz α)) = none := rfl
@[simp] theorem ev_bnz {α β : Type} (a : α) (f : α → Option (Rz β)) : bnz (some (Rz.ok a)) f = f a := rfl
@[simp] theorem ev_bnzx {α β : Type} (c : Str) (f : α → Option (Rz β)) : bnz (some (Rz.ex c)) f = some (.ex c) := rfl
@[simp] theorem ev_bnz0 {α β : Type} (f : α → Option (Rz β)) : bnz none f = none := rfl
@[simp] theorem ev_op2 (f : Rs → Rs → Option Rs) : op2 f sa sb ρ = (match okk (sa ρ), okk (sb ρ) with
  | some a, some b => (f a b).map .ok
  | _, _ => none) := rfl
@[simp] theorem ev_op1 (f : Rs → Option Rs) : op1 f sa ρ = (match okk (sa ρ) with
  | some a => (f a).map .ok
  | none => none) := rfl
@[simp] theorem ev_cm2 (f : Rs → Rs → Option Bool) : cm2 f sa sb ρ = (match okk (sa ρ), okk (sb ρ) with
  | some a, some b => f a b
  | _, _ => none) := rfl
@[simp] theorem ev_cm1 (f : Rs → Option Bool) : cm1 f sa ρ = (match okk (sa ρ) with
  | some a => f a
  | none => none) := rfl
@[simp] theorem ev_bV : bV t ρ = (t ρ).map fun b => .ok (.da (.bool b)) := rfl
@[simp] theorem ev_notT : notT t ρ = (t ρ).map (!·) := rfl
@[simp] theorem ev_andT : andT t t' ρ = (match t ρ with
  | some true => t' ρ
  | some false => some false
  | none => none) := rfl
@[simp] theorem ev_orT : orT t t' ρ = (match t ρ with
  | some false => t' ρ
  | some true => some true
  | none => none) := by
  unfold orT; cases t ρ with
  | none => rfl
  | some b => cases b <;> rfl
@[simp] theorem ev_asB : asB sa ρ = (match sa ρ with
  | some (.ok (.da (.bool b))) => some b
  | _ => none) := rfl
@[simp] theorem ev_ifE : ifE t sa sb ρ = (match t ρ with
  | some true => (okk (sa ρ)).map .ok
  | some false => (okk (sb ρ)).map .ok
  | none => none) := rfl
@[simp] theorem ev_nilD : nilD ρ = some (.ok []) := rfl
@[simp] theorem ev_consD : consD sd ss ρ = bnz (sd ρ) fun d => bnz (ss ρ) fun ds => some (.ok (d :: ds)) := rfl
@[simp] theorem ev_tupC : tupC ss ρ = bnz (ss ρ) fun ds => if ds.length ≤ 1000 then some (.ok (.tuple ds)) else none := rfl
@[simp] theorem ev_lstC : lstC ss ρ = bnz (ss ρ) fun ds => if ds.length ≤ 1000 then some (.ok (.lst ds)) else none := rfl
@[simp] theorem ev_sa1 (f : Rs → Option Rs) : sa1 f sa ρ = bnz (sa ρ) fun r => (f r).map .ok := rfl
@[simp] theorem ev_subC : subC sa sd ρ = bnz (sa ρ) fun r => match okk (sd ρ) with
  | some d => (subR r (.da d)).map .ok
  | none => none := rfl
@[simp] theorem ev_nilA : nilA ρ = some (.ok []) := rfl
@[simp] theorem ev_consA : consA sa sr ρ = bnz (sa ρ) fun r => bnz (sr ρ) fun rs => some (.ok (r :: rs)) := rfl
@[simp] theorem ev_callC : callC F sr ρ = bnz (sr ρ) fun rs => match F rs with
  | some (.ok x _) => some (.ok x)
  | some (.ex c _) => some (.ex c)
  | none => none := rfl
@[simp] theorem ev_methC : methC cn m F sa sr ρ = bnz (sa ρ) fun r => if isC cn m r then bnz (sr ρ) fun rs => match F (r :: rs) with
  | some (.ok x _) => some (.ok x)
  | some (.ex c _) => some (.ex c)
  | none => none
  else none := rfl
@[simp] theorem ev_mkC : mkC cn F sr ρ = (match okk (sr ρ) with
  | some rs => (match F (.ins cn [] :: rs) with
    | some (.ok (.da .none) (r :: _)) => some (.ok r)
    | _ => none)
  | none => none) := rfl
@[simp] theorem ev_put (s : Sv) : put ρ i s = (dropA i ρ).set i s := rfl
@[simp] theorem ev_drop0 : dropA i [] = [] := rfl
@[simp] theorem ev_dropU (ρ : En) : dropA i (.un :: ρ) = .un :: dropA i ρ := rfl
@[simp] theorem ev_dropO (r : Rs) (ρ : En) : dropA i (.ow r :: ρ) = .ow r :: dropA i ρ := rfl
@[simp] theorem ev_dropB (r : Rs) (ρ : En) : dropA i (.bo r :: ρ) = .bo r :: dropA i ρ := rfl
@[simp] theorem ev_bodyF (ar : Nat) (mk : List Bool) (n : Nat) (as : List Rs) : bodyF ar mk n s as = if as.length = ar then (match s (startE mk as ++ List.replicate (n - as.length) .un) with
  | some (.rt x ρ) => (finP mk ρ).map (.ok x)
  | some (.nx ρ) => (finP mk ρ).map (.ok (.da .none))
  | some (.ex c ρ) => (finP mk ρ).map (.ex c)
  | _ => none)
  else none := rfl
@[simp] theorem ev_start0 (mk : List Bool) : startE mk [] = [] := by cases mk <;> rfl
@[simp] theorem ev_startN (r : Rs) (as : List Rs) : startE [] (r :: as) = .bo r :: startE [] as := rfl
@[simp] theorem ev_startT (mk : List Bool) (r : Rs) (as : List Rs) : startE (true :: mk) (r :: as) = .ow r :: startE mk as := rfl
@[simp] theorem ev_startF (mk : List Bool) (r : Rs) (as : List Rs) : startE (false :: mk) (r :: as) = .bo r :: startE mk as := rfl
@[simp] theorem ev_fin0 : finP [] ρ = some [] := rfl
@[simp] theorem ev_finT (mk : List Bool) (r : Rs) (ρ : En) : finP (true :: mk) (.ow r :: ρ) = (finP mk ρ).map (r :: ·) := rfl
@[simp] theorem ev_finF (mk : List Bool) (s : Sv) (ρ : En) : finP (false :: mk) (s :: ρ) = (finP mk ρ).map (.un :: ·) := rfl
@[simp] theorem ev_parS : parS i j ss ρ = (match okk (ss ρ) with
  | some [d1, d2] => if i < ρ.length ∧ j < ρ.length then some (.nx (put (put ρ i (.ow (.da d1))) j (.ow (.da d2)))) else none
  | _ => none) := rfl
@[simp] theorem ev_isNE : isNE se ρ = (match se ρ with
  | some (.ok x ρ1) => (isNR x).map fun b => (b, ρ1)
  | _ => none) := rfl
@[simp] theorem ev_notE : notE te ρ = (te ρ).map fun p => (!p.1, p.2) := rfl
@[simp] theorem ev_isNR (d : PyData) : isNR (.da d) = some (isN d) := rfl
@[simp] theorem ev_notNR (r : Rs) : notNR r = (isNR r).map (!·) := rfl
@[simp] theorem ev_isN0 : isN .none = true := rfl
@[simp] theorem ev_isNt (ds : List PyData) : isN (.tuple ds) = false := rfl
@[simp] theorem ev_isNs (z : Str) : isN (.str z) = false := rfl
@[simp] theorem ev_isNi (z : Int) : isN (.int z) = false := rfl
@[simp] theorem ev_varP : varP i ρ = (match ρ[i]? with
  | some (.ow _) => some (i, [])
  | some (.al j π) => if (atP ρ (j, π)).isSome then some (j, π) else none
  | _ => none) := rfl
@[simp] theorem ev_atP (p : Nat × List Pe) : atP ρ p = (match ρ[p.1]? with
  | some (.ow r) => getP r p.2
  | _ => none) := rfl
@[simp] theorem ev_attrP (f : Str) : attrP cn f sp ρ = (match sp ρ with
  | some p => (match atP ρ p with
    | some (.ins c fs) => if c = cn ∧ (fs.lookup f).isSome then some (p.1, p.2 ++ [.f f]) else none
    | _ => none)
  | none => none) := rfl
@[simp] theorem ev_lmE (f : List PyData → List PyData → Option (PyData × List PyData)) : lmE f sp ss ρ = (match sp ρ, okk (ss ρ) with
  | some p, some as => (match atP ρ p with
    | some (.lst ds) => (match f ds as with
      | some (y, ds') => some (.ok (.da y) (upS ρ p.1 p.2 (.lst ds')))
      | none => none)
    | _ => none)
  | _, _ => none) := rfl
@[simp] theorem ev_fldS (f : Str) : fldS cn f sp se ρ = (match se ρ with
  | some (.ok y ρ1) => (match sp ρ1 with
    | some p => (match atP ρ1 p with
      | some (.ins c fs) => if c = cn ∧ fs.length < 1000 then some (.nx (upS ρ1 p.1 p.2 (.ins c (putR f y fs)))) else none
      | _ => none)
    | none => none)
  | some (.ex c ρ1) => some (.ex c ρ1)
  | none => none) := rfl
@[simp] theorem ev_nilM (ρh : En) : nilM ρ ρh = some (.ok []) := rfl
@[simp] theorem ev_consM (ρh : En) : consM sa sm ρ ρh = (match argM sa ρ ρh with
  | some (.ok (.da d)) => bnz (sm ρ ρh) fun rs => some (.ok (.da d :: rs))
  | some (.ok r) => (match sm ρ ρh with
    | some (.ok rs) => some (.ok (r :: rs))
    | _ => none)
  | some (.ex c) => some (.ex c)
  | none => none) := rfl
@[simp] theorem ev_argM (ρh : En) : argM sa ρ ρh = (match sa ρ with
  | some (.ok (.da d)) => some (.ok (.da d))
  | some (.ex c) => some (.ex c)
  | _ => (okk (sa ρh)).map .ok) := rfl
@[simp] theorem ev_mmE : mmE cn m F sp sm ρ = (match sp ρ with
  | some p => (match atP ρ p with
    | some x => if isC cn m x then (match sm ρ (holeE ρ p) with
      | some (.ok rs) => outE ρ p (F (x :: rs))
      | some (.ex c) => some (.ex c ρ)
      | none => none) else none
    | none => none)
  | none => none) := rfl
@[simp] theorem ev_outE (p : Nat × List Pe) (y x' : Rs) (l : List Rs) : outE ρ p (some (.ok y (x' :: l))) = some (.ok y (upS ρ p.1 p.2 x')) := rfl
@[simp] theorem ev_outX (p : Nat × List Pe) (c : Str) (x' : Rs) (l : List Rs) : outE ρ p (some (.ex c (x' :: l))) = some (.ex c (upS ρ p.1 p.2 x')) := rfl
end
/-! numbers -/
section
variable (i j : Int) (ds : List PyData)
@[simp] theorem ev_addI : addR (.da (.int i)) (.da (.int j)) = some (.da (.int (i + j))) := rfl
@[simp] theorem ev_subI : subI (.da (.int i)) (.da (.int j)) = some (.da (.int (i - j))) := rfl
@[simp] theorem ev_negI : negR (.da (.int i)) = some (.da (.int (-i))) := rfl
theorem ev_mulI {i j : Int} (h : CMulW i j) : mulR (.da (.int i)) (.da (.int j)) = some (.da (.int (i * j))) := by
  unfold mulR
  exact if_pos h
theorem ev_divI {i j : Int} (h : CDivW i j) : divI (.da (.int i)) (.da (.int j)) = some (.da (.int (i / j))) := by
  show (if 0 < j ∧ j.natAbs.log2 < 9000 then some (i / j) else none).map _ = _
  rw [if_pos (show 0 < j ∧ j.natAbs.log2 < 9000 from h)]; rfl
theorem ev_modI {i j : Int} (h : 0 < j) : modI (.da (.int i)) (.da (.int j)) = some (.da (.int (i % j))) := by
  show (if 0 < j then some (i % j) else none).map _ = _
  rw [if_pos h]; rfl
@[simp] theorem ev_powI : powI (.da (.int i)) (.da (.int j)) = (if 0 ≤ j ∧ j ≤ 1000000 ∧ i.natAbs < 2 ^ 64 then some (i ^ j.toNat) else none).map fun k => .da (.int k) := rfl
@[simp] theorem ev_ltI : ltR (.da (.int i)) (.da (.int j)) = some (decide (i < j)) := rfl
@[simp] theorem ev_leI : leI (.da (.int i)) (.da (.int j)) = some (decide (i ≤ j)) := rfl
@[simp] theorem ev_gtI : gtI (.da (.int i)) (.da (.int j)) = some (decide (j < i)) := rfl
@[simp] theorem ev_geI : geI (.da (.int i)) (.da (.int j)) = some (decide (j ≤ i)) := rfl
@[simp] theorem ev_eqI : eqR (.da (.int i)) (.da (.int j)) = some (decide (i = j)) := by
  show (if (true && true) = true then some (PyData.eqv (.int i) (.int j)) else none) = _
  rw [if_pos (by rfl)]
  simp [PyData.eqv, Bool.beq_eq_decide_eq]
@[simp] theorem ev_neI (a b : Rs) : neR a b = (eqR a b).map (!·) := rfl
@[simp] theorem ev_absI : Cg.absR (.da (.int i)) = some (.da (.int (i.natAbs : Int))) := rfl
@[simp] theorem ev_lenL : lenV (.lst ds) = some (.da (.int (ds.length : Int))) := rfl
@[simp] theorem ev_lenLd : lenV (.da (.list ds)) = some (.da (.int (ds.length : Int))) := rfl
@[simp] theorem ev_lenTd : lenV (.da (.tuple ds)) = some (.da (.int (ds.length : Int))) := rfl
@[simp] theorem ev_lenS (ns : List Int) : lenV (.scr ns) = some (.da (.int (ns.length : Int))) := rfl
@[simp] theorem ev_subT : subR (.da (.tuple ds)) (.da (.int i)) = (atI ds i).map .da := rfl
@[simp] theorem ev_subL : subR (.da (.list ds)) (.da (.int i)) = (atI ds i).map .da := rfl
@[simp] theorem ev_subO : subR (.lst ds) (.da (.int i)) = (atI ds i).map .da := rfl
@[simp] theorem ev_subS (ns : List Int) : subR (.scr ns) (.da (.int i)) = (atI ns i).map fun n => .da (.int n) := rfl
@[simp] theorem ev_lsO : lsR (.lst ds) = some (.lst ds) := rfl
@[simp] theorem ev_lsL : lsR (.da (.list ds)) = some (.lst ds) := rfl
@[simp] theorem ev_lsT : lsR (.da (.tuple ds)) = some (.lst ds) := rfl
end
/-! fractions are kept whole -/
@[simp] theorem ev_q0 (p : Rat) : subR (.da (qD p)) (.da (.int 0)) = some (.da (.int p.num)) := rfl
@[simp] theorem ev_q1 (p : Rat) : subR (.da (qD p)) (.da (.int 1)) = some (.da (.int p.den)) := rfl
@[simp] theorem ev_eqQ (p q : Rat) : eqR (.da (qD p)) (.da (qD q)) = some (decide (p = q)) := by
  show (if (true && true) = true then some (PyData.eqv (qD p) (qD q)) else none) = _
  rw [if_pos (by rfl), eqv_qD']
@[simp] theorem ev_isNq (p : Rat) : isN (qD p) = false := rfl
end Sm

/-! How the words compute (the rest; written by a script from C6-C28). -/
namespace Sm
open PySem L2 Cg
@[simp] theorem ev_idxX (sa : FE) (sd : FD) (ρ : En) : idxX sa sd ρ = (match okk (sa ρ), sd ρ with
  | some r, some (.ok d) => (idxR r (.da d)).map .ok
  | some r, some (.ex c) => if (asL r).isSome then some (.ex c) else none
  | _, _ => none) := rfl
@[simp] theorem ev_lputE (sp : FP) (sd : FD) (se : En → Option Oe) (ρ : En) : lputE sp sd se ρ = (match se ρ with
  | some (.ok (.da y) ρ1) => (match sp ρ1, okk (sd ρ1) with
    | some p, some (.int i) => (match atP ρ1 p with
      | some (.lst ds) => (match ixN ds.length i with
        | some j => some (.nx (upS ρ1 p.1 p.2 (.lst (ds.set j y))))
        | none => none)
      | _ => none)
    | _, _ => none)
  | _ => none) := rfl
@[simp] theorem ev_chI (p p' : Int → Int → Bool) (sa sb sc : FE) (ρ : En) : chI p p' sa sb sc ρ = (match okk (sa ρ), okk (sb ρ), okk (sc ρ) with
  | some (.da (.int i)), some (.da (.int j)), some (.da (.int k)) => some (p i j && p' j k)
  | _, _, _ => none) := rfl
@[simp] theorem ev_subP (sp : FP) (sd : FD) (ρ : En) : subP sp sd ρ = (match sp ρ, okk (sd ρ) with
  | some p, some d => (match atP ρ p with
    | some (.dct _ kvs) => (match keyD d with
      | some k => if (valR k kvs).isSome then some (p.1, p.2 ++ [.k k]) else none
      | none => none)
    | some (.lsr rs) => (match d with
      | .int i => (match ixN rs.length i with
        | some j => if (rs[j]?).isSome then some (p.1, p.2 ++ [.i j]) else none
        | none => none)
      | _ => none)
    | _ => none)
  | _, _ => none) := rfl
@[simp] theorem ev_dputS (sp : FP) (sd : FD) (se : En → Option Oe) (ρ : En) : dputS sp sd se ρ = (match se ρ with
  | some (.ok y ρ1) => (match sp ρ1, okk (sd ρ1) with
    | some p, some d => (match atP ρ1 p, keyD d with
      | some (.dct 0 kvs), some k => if kvs.length < sizeLine then some (.nx (upS ρ1 p.1 p.2 (.dct 0 (setR k y kvs)))) else none
      | _, _ => none)
    | _, _ => none)
  | some (.ex c ρ1) => some (.ex c ρ1)
  | none => none) := rfl
@[simp] theorem ev_lputS (sp : FP) (sd : FD) (sv : FD) (ρ : En) : lputS sp sd sv ρ = (match okk (sv ρ), sp ρ, okk (sd ρ) with
  | some y, some p, some (.int i) => (match atP ρ p with
    | some (.lst ds) => (match ixN ds.length i with
      | some j => some (.nx (upS ρ p.1 p.2 (.lst (ds.set j y))))
      | none => none)
    | _ => none)
  | _, _, _ => none) := rfl
@[simp] theorem ev_cmE (F : List Rs → Option Rt) (sp : FP) (sm : FM) (ρ : En) : cmE F sp sm ρ = (match sp ρ with
  | some p => (match atP ρ p with
    | some x => (match sm ρ (holeE ρ p) with
      | some (.ok rs) => outE ρ p (F (x :: rs))
      | some (.ex c) => some (.ex c ρ)
      | none => none)
    | none => none)
  | none => none) := rfl
@[simp] theorem ev_valE (se : En → Option Oe) (ρ : En) : valE se ρ = (match se ρ with
  | some (.ok (.da (.bool b)) ρ1) => some (b, ρ1)
  | _ => none) := rfl
@[simp] theorem ev_andE (t t' : En → Option (Bool × En)) (ρ : En) : andE t t' ρ = (match t ρ with
  | some (true, ρ1) => t' ρ1
  | r => r) := rfl
@[simp] theorem ev_orTE (t t' : En → Option (Bool × En)) (ρ : En) : orTE t t' ρ = (match t ρ with
  | some (false, ρ1) => t' ρ1
  | r => r) := rfl
@[simp] theorem ev_cmE2 (f : Rs → Rs → Option Bool) (se : En → Option Oe) (sb : FE) (ρ : En) : cmE2 f se sb ρ = (match se ρ with
  | some (.ok x ρ1) => (match okk (sb ρ1) with
    | some y => (f x y).map fun b => (b, ρ1)
    | none => none)
  | _ => none) := rfl
@[simp] theorem ev_itF (sa : FE) (ρ : En) : itF sa ρ = (match okk (sa ρ) with
  | some r => itA r
  | none => none) := rfl
@[simp] theorem ev_intO (sd : FD) (ρ : En) : intO sd ρ = (match okk (sd ρ) with
  | some (.int k) => some (some k)
  | _ => none) := rfl
@[simp] theorem ev_sliceC (sa : FE) (lo hi : En → Option (Option Int)) (ρ : En) : sliceC sa lo hi ρ = (match okk (sa ρ), lo ρ, hi ρ with
  | some r, some zl, some zh => (cutR r zl zh).map .ok
  | _, _, _ => none) := rfl
@[simp] theorem ev_idxC (sa : FE) (sd : FD) (ρ : En) : idxC sa sd ρ = (match okk (sa ρ), okk (sd ρ) with
  | some r, some d => (idxR r (.da d)).map .ok
  | _, _ => none) := rfl
@[simp] theorem ev_joinC (sd : FD) (sa : FE) (ρ : En) : joinC sd sa ρ = (match okk (sd ρ), okk (sa ρ) with
  | some d, some r => (joinR (.da d) r).map .ok
  | _, _ => none) := rfl
@[simp] theorem ev_maxC (sd sd' : FD) (ρ : En) : maxC sd sd' ρ = (match okk (sd ρ), okk (sd' ρ) with
  | some (.int i), some (.int j) => some (.ok (.da (.int (if j > i then j else i))))
  | _, _ => none) := rfl
@[simp] theorem ev_forV (i j : Nat) (b : FS) (ρ : En) : forV i j b ρ = (match ρ[j]? with
  | some (.ow (.lst ds)) => forL i b ds (put ρ j (.ow (.da (.list ds))))
  | _ => forD i (dtA (varC j)) b ρ) := rfl
@[simp] theorem ev_dputT (sp : FP) (sd sv : FD) (ρ : En) : dputT sp sd sv ρ = (match okk (sv ρ), sp ρ, okk (sd ρ) with
  | some y, some p, some (.tuple ds) => (match atP ρ p, keysD ds with
    | some (.dtt kvs), some k => if kvs.length < sizeLine then some (.nx (upS ρ p.1 p.2 (.dtt (setT k y kvs)))) else none
    | _, _ => none)
  | _, _, _ => none) := rfl
@[simp] theorem ev_dpopT (sp : FP) (sd : FD) (ρ : En) : dpopT sp sd ρ = (match sp ρ, okk (sd ρ) with
  | some p, some (.tuple ds) => (match atP ρ p, keysD ds with
    | some (.dtt kvs), some k => (match valT k kvs with
      | some y => some (.ok (.da y) (upS ρ p.1 p.2 (.dtt (dropT k kvs))))
      | none => none)
    | _, _ => none)
  | _, _ => none) := rfl
@[simp] theorem ev_varB (i : Nat) (ρ : En) : varB i ρ = (match ρ[i]? with
  | some (.bo _) => some (i, [])
  | _ => none) := rfl
@[simp] theorem ev_attrB (cn f : Str) (sp : FP) (ρ : En) : attrB cn f sp ρ = (match sp ρ with
  | some p => (match atB ρ p with
    | some (.ins c fs) => if c = cn ∧ (fs.lookup f).isSome then some (p.1, p.2 ++ [.f f]) else none
    | _ => none)
  | none => none) := rfl
@[simp] theorem ev_forB (i : Nat) (sp : FP) (b : FS) (ρ : En) : forB i sp b ρ = (match sp ρ with
  | some p => (match atB ρ p with
    | some (.lst ds) => forL i b ds ρ
    | _ => none)
  | none => none) := rfl
@[simp] theorem ev_unpS2 (i j : Nat) (se : En → Option Oe) (ρ : En) : unpS2 i j se ρ = (match se ρ with
  | some (.ok x ρ1) => (match partsR x with
    | some [a, b] => if i < ρ1.length ∧ j < ρ1.length then some (.nx (put (put ρ1 i (.ow a)) j (.ow b))) else none
    | _ => none)
  | some (.ex c ρ1) => some (.ex c ρ1)
  | none => none) := rfl
@[simp] theorem ev_unpS3 (i1 i2 i3 : Nat) (se : En → Option Oe) (ρ : En) : unpS3 i1 i2 i3 se ρ = (match se ρ with
  | some (.ok x ρ1) => (match partsR x with
    | some [a1, a2, a3] => if i1 < ρ1.length ∧ i2 < ρ1.length ∧ i3 < ρ1.length then some (.nx (put (put (put ρ1 i1 (.ow a1)) i2 (.ow a2)) i3 (.ow a3))) else none
    | _ => none)
  | some (.ex c ρ1) => some (.ex c ρ1)
  | none => none) := rfl
@[simp] theorem ev_unpS4 (i1 i2 i3 i4 : Nat) (se : En → Option Oe) (ρ : En) : unpS4 i1 i2 i3 i4 se ρ = (match se ρ with
  | some (.ok x ρ1) => (match partsR x with
    | some [a1, a2, a3, a4] => if i1 < ρ1.length ∧ i2 < ρ1.length ∧ i3 < ρ1.length ∧ i4 < ρ1.length then some (.nx (put (put (put (put ρ1 i1 (.ow a1)) i2 (.ow a2)) i3 (.ow a3)) i4 (.ow a4))) else none
    | _ => none)
  | some (.ex c ρ1) => some (.ex c ρ1)
  | none => none) := rfl
@[simp] theorem ev_ca1E (F : List Rs → Option Rt) (se : En → Option Oe) (ss : En → Option (Rz (List Rs))) (ρ : En) : ca1E F se ss ρ = (match se ρ with
  | some (.ok x ρ1) => (match okk (ss ρ1) with
    | some rs => (match F (x :: rs) with
      | some (.ok y _) => some (.ok y ρ1)
      | some (.ex c _) => some (.ex c ρ1)
      | none => none)
    | none => none)
  | some (.ex c ρ1) => some (.ex c ρ1)
  | none => none) := rfl
@[simp] theorem ev_klS (ks : List Nat) (s : FS) (ρ : En) : klS ks s ρ = (s ρ).map (klO ks) := rfl
@[simp] theorem ev_tryS (cs ts : List Str) (ix ie : Nat) (b : FS) (ρ : En) : tryS cs ts ix ie b ρ = (match b ρ with
  | some (.ex c ρ1) => if cs.contains c = true ∧ ix < ρ1.length ∧ unAt ρ1 ie = true then some (.nx (put (dropA ie ρ1) ix (.ow (.lst (fls ts c))))) else none
  | r => r) := rfl
@[simp] theorem ev_atB (ρ : En) (p : Nat × List Pe) : atB ρ p = (match ρ[p.1]? with
  | some (.bo r) => getP r p.2
  | _ => none) := rfl
@[simp] theorem ev_klNx (ks : List Nat) (ρ : En) : klO ks (.nx ρ) = .nx (kil ks ρ) := rfl
@[simp] theorem ev_klBk (ks : List Nat) (ρ : En) : klO ks (.bk ρ) = .bk (kil ks ρ) := rfl
@[simp] theorem ev_klCt (ks : List Nat) (ρ : En) : klO ks (.ct ρ) = .ct (kil ks ρ) := rfl
@[simp] theorem ev_klRt (ks : List Nat) (x : Rs) (ρ : En) : klO ks (.rt x ρ) = .rt x ρ := rfl
@[simp] theorem ev_klEx (ks : List Nat) (c : Str) (ρ : En) : klO ks (.ex c ρ) = .ex c ρ := rfl
@[simp] theorem ev_kil0 (ρ : En) : kil [] ρ = ρ := rfl
@[simp] theorem ev_kilS (i : Nat) (t : List Nat) (ρ : En) : kil (i :: t) ρ = kil t (kil1 i ρ) := rfl
@[simp] theorem ev_kil1 (i : Nat) (ρ : En) : kil1 i ρ = (match ρ[i]? with
  | some (.ow _) => ρ.set i .un
  | some (.al _ _) => ρ.set i .un
  | _ => ρ) := rfl
@[simp] theorem ev_unAt (ρ : En) (i : Nat) : unAt ρ i = (match ρ[i]? with
  | some .un => true
  | _ => false) := rfl
@[simp] theorem ev_call0C (F : List Rs → Option Rt) (ρ : En) : call0C F ρ = (match F [] with
  | some (.ok x _) => some (.ok x)
  | _ => none) := rfl
end Sm

/-! Texts that are told apart (written by a script); steps of an evaluation. -/
namespace Sm
open PySem L2 Cg
@[simp] theorem strBeq (a b : Str) : (a == b) = decide (a = b) := by by_cases h : a = b <;> simp [h]
@[simp] theorem sne_rows_end : ((("rows" : Str)) = "end") = False := eq_false (by decide +kernel)
@[simp] theorem sne_rows_due : ((("rows" : Str)) = "due") = False := eq_false (by decide +kernel)
@[simp] theorem sne_rows_now : ((("rows" : Str)) = "now") = False := eq_false (by decide +kernel)
@[simp] theorem sne_rows_row : ((("rows" : Str)) = "row") = False := eq_false (by decide +kernel)
@[simp] theorem sne_rows_logs : ((("rows" : Str)) = "logs") = False := eq_false (by decide +kernel)
@[simp] theorem sne_rows_names : ((("rows" : Str)) = "names") = False := eq_false (by decide +kernel)
@[simp] theorem sne_rows_water : ((("rows" : Str)) = "water") = False := eq_false (by decide +kernel)
@[simp] theorem sne_rows_passed : ((("rows" : Str)) = "passed") = False := eq_false (by decide +kernel)
@[simp] theorem sne_rows_done : ((("rows" : Str)) = "done") = False := eq_false (by decide +kernel)
@[simp] theorem sne_rows_crowns : ((("rows" : Str)) = "crowns") = False := eq_false (by decide +kernel)
@[simp] theorem sne_end_rows : ((("end" : Str)) = "rows") = False := eq_false (by decide +kernel)
@[simp] theorem sne_end_due : ((("end" : Str)) = "due") = False := eq_false (by decide +kernel)
@[simp] theorem sne_end_now : ((("end" : Str)) = "now") = False := eq_false (by decide +kernel)
@[simp] theorem sne_end_row : ((("end" : Str)) = "row") = False := eq_false (by decide +kernel)
@[simp] theorem sne_end_logs : ((("end" : Str)) = "logs") = False := eq_false (by decide +kernel)
@[simp] theorem sne_end_names : ((("end" : Str)) = "names") = False := eq_false (by decide +kernel)
@[simp] theorem sne_end_water : ((("end" : Str)) = "water") = False := eq_false (by decide +kernel)
@[simp] theorem sne_end_passed : ((("end" : Str)) = "passed") = False := eq_false (by decide +kernel)
@[simp] theorem sne_end_done : ((("end" : Str)) = "done") = False := eq_false (by decide +kernel)
@[simp] theorem sne_end_crowns : ((("end" : Str)) = "crowns") = False := eq_false (by decide +kernel)
@[simp] theorem sne_due_rows : ((("due" : Str)) = "rows") = False := eq_false (by decide +kernel)
@[simp] theorem sne_due_end : ((("due" : Str)) = "end") = False := eq_false (by decide +kernel)
@[simp] theorem sne_due_now : ((("due" : Str)) = "now") = False := eq_false (by decide +kernel)
@[simp] theorem sne_due_row : ((("due" : Str)) = "row") = False := eq_false (by decide +kernel)
@[simp] theorem sne_due_logs : ((("due" : Str)) = "logs") = False := eq_false (by decide +kernel)
@[simp] theorem sne_due_names : ((("due" : Str)) = "names") = False := eq_false (by decide +kernel)
@[simp] theorem sne_due_water : ((("due" : Str)) = "water") = False := eq_false (by decide +kernel)
@[simp] theorem sne_due_passed : ((("due" : Str)) = "passed") = False := eq_false (by decide +kernel)
@[simp] theorem sne_due_done : ((("due" : Str)) = "done") = False := eq_false (by decide +kernel)
@[simp] theorem sne_due_crowns : ((("due" : Str)) = "crowns") = False := eq_false (by decide +kernel)
@[simp] theorem sne_now_rows : ((("now" : Str)) = "rows") = False := eq_false (by decide +kernel)
@[simp] theorem sne_now_end : ((("now" : Str)) = "end") = False := eq_false (by decide +kernel)
@[simp] theorem sne_now_due : ((("now" : Str)) = "due") = False := eq_false (by decide +kernel)
@[simp] theorem sne_now_row : ((("now" : Str)) = "row") = False := eq_false (by decide +kernel)
@[simp] theorem sne_now_logs : ((("now" : Str)) = "logs") = False := eq_false (by decide +kernel)
@[simp] theorem sne_now_names : ((("now" : Str)) = "names") = False := eq_false (by decide +kernel)
@[simp] theorem sne_now_water : ((("now" : Str)) = "water") = False := eq_false (by decide +kernel)
@[simp] theorem sne_now_passed : ((("now" : Str)) = "passed") = False := eq_false (by decide +kernel)
@[simp] theorem sne_now_done : ((("now" : Str)) = "done") = False := eq_false (by decide +kernel)
@[simp] theorem sne_now_crowns : ((("now" : Str)) = "crowns") = False := eq_false (by decide +kernel)
@[simp] theorem sne_row_rows : ((("row" : Str)) = "rows") = False := eq_false (by decide +kernel)
@[simp] theorem sne_row_end : ((("row" : Str)) = "end") = False := eq_false (by decide +kernel)
@[simp] theorem sne_row_due : ((("row" : Str)) = "due") = False := eq_false (by decide +kernel)
@[simp] theorem sne_row_now : ((("row" : Str)) = "now") = False := eq_false (by decide +kernel)
@[simp] theorem sne_row_logs : ((("row" : Str)) = "logs") = False := eq_false (by decide +kernel)
@[simp] theorem sne_row_names : ((("row" : Str)) = "names") = False := eq_false (by decide +kernel)
@[simp] theorem sne_row_water : ((("row" : Str)) = "water") = False := eq_false (by decide +kernel)
@[simp] theorem sne_row_passed : ((("row" : Str)) = "passed") = False := eq_false (by decide +kernel)
@[simp] theorem sne_row_done : ((("row" : Str)) = "done") = False := eq_false (by decide +kernel)
@[simp] theorem sne_row_crowns : ((("row" : Str)) = "crowns") = False := eq_false (by decide +kernel)
@[simp] theorem sne_logs_rows : ((("logs" : Str)) = "rows") = False := eq_false (by decide +kernel)
@[simp] theorem sne_logs_end : ((("logs" : Str)) = "end") = False := eq_false (by decide +kernel)
@[simp] theorem sne_logs_due : ((("logs" : Str)) = "due") = False := eq_false (by decide +kernel)
@[simp] theorem sne_logs_now : ((("logs" : Str)) = "now") = False := eq_false (by decide +kernel)
@[simp] theorem sne_logs_row : ((("logs" : Str)) = "row") = False := eq_false (by decide +kernel)
@[simp] theorem sne_logs_names : ((("logs" : Str)) = "names") = False := eq_false (by decide +kernel)
@[simp] theorem sne_logs_water : ((("logs" : Str)) = "water") = False := eq_false (by decide +kernel)
@[simp] theorem sne_logs_passed : ((("logs" : Str)) = "passed") = False := eq_false (by decide +kernel)
@[simp] theorem sne_logs_done : ((("logs" : Str)) = "done") = False := eq_false (by decide +kernel)
@[simp] theorem sne_logs_crowns : ((("logs" : Str)) = "crowns") = False := eq_false (by decide +kernel)
@[simp] theorem sne_names_rows : ((("names" : Str)) = "rows") = False := eq_false (by decide +kernel)
@[simp] theorem sne_names_end : ((("names" : Str)) = "end") = False := eq_false (by decide +kernel)
@[simp] theorem sne_names_due : ((("names" : Str)) = "due") = False := eq_false (by decide +kernel)
@[simp] theorem sne_names_now : ((("names" : Str)) = "now") = False := eq_false (by decide +kernel)
@[simp] theorem sne_names_row : ((("names" : Str)) = "row") = False := eq_false (by decide +kernel)
@[simp] theorem sne_names_logs : ((("names" : Str)) = "logs") = False := eq_false (by decide +kernel)
@[simp] theorem sne_names_water : ((("names" : Str)) = "water") = False := eq_false (by decide +kernel)
@[simp] theorem sne_names_passed : ((("names" : Str)) = "passed") = False := eq_false (by decide +kernel)
@[simp] theorem sne_names_done : ((("names" : Str)) = "done") = False := eq_false (by decide +kernel)
@[simp] theorem sne_names_crowns : ((("names" : Str)) = "crowns") = False := eq_false (by decide +kernel)
@[simp] theorem sne_water_rows : ((("water" : Str)) = "rows") = False := eq_false (by decide +kernel)
@[simp] theorem sne_water_end : ((("water" : Str)) = "end") = False := eq_false (by decide +kernel)
@[simp] theorem sne_water_due : ((("water" : Str)) = "due") = False := eq_false (by decide +kernel)
@[simp] theorem sne_water_now : ((("water" : Str)) = "now") = False := eq_false (by decide +kernel)
@[simp] theorem sne_water_row : ((("water" : Str)) = "row") = False := eq_false (by decide +kernel)
@[simp] theorem sne_water_logs : ((("water" : Str)) = "logs") = False := eq_false (by decide +kernel)
@[simp] theorem sne_water_names : ((("water" : Str)) = "names") = False := eq_false (by decide +kernel)
@[simp] theorem sne_water_passed : ((("water" : Str)) = "passed") = False := eq_false (by decide +kernel)
@[simp] theorem sne_water_done : ((("water" : Str)) = "done") = False := eq_false (by decide +kernel)
@[simp] theorem sne_water_crowns : ((("water" : Str)) = "crowns") = False := eq_false (by decide +kernel)
@[simp] theorem sne_passed_rows : ((("passed" : Str)) = "rows") = False := eq_false (by decide +kernel)
@[simp] theorem sne_passed_end : ((("passed" : Str)) = "end") = False := eq_false (by decide +kernel)
@[simp] theorem sne_passed_due : ((("passed" : Str)) = "due") = False := eq_false (by decide +kernel)
@[simp] theorem sne_passed_now : ((("passed" : Str)) = "now") = False := eq_false (by decide +kernel)
@[simp] theorem sne_passed_row : ((("passed" : Str)) = "row") = False := eq_false (by decide +kernel)
@[simp] theorem sne_passed_logs : ((("passed" : Str)) = "logs") = False := eq_false (by decide +kernel)
@[simp] theorem sne_passed_names : ((("passed" : Str)) = "names") = False := eq_false (by decide +kernel)
@[simp] theorem sne_passed_water : ((("passed" : Str)) = "water") = False := eq_false (by decide +kernel)
@[simp] theorem sne_passed_done : ((("passed" : Str)) = "done") = False := eq_false (by decide +kernel)
@[simp] theorem sne_passed_crowns : ((("passed" : Str)) = "crowns") = False := eq_false (by decide +kernel)
@[simp] theorem sne_done_rows : ((("done" : Str)) = "rows") = False := eq_false (by decide +kernel)
@[simp] theorem sne_done_end : ((("done" : Str)) = "end") = False := eq_false (by decide +kernel)
@[simp] theorem sne_done_due : ((("done" : Str)) = "due") = False := eq_false (by decide +kernel)
@[simp] theorem sne_done_now : ((("done" : Str)) = "now") = False := eq_false (by decide +kernel)
@[simp] theorem sne_done_row : ((("done" : Str)) = "row") = False := eq_false (by decide +kernel)
@[simp] theorem sne_done_logs : ((("done" : Str)) = "logs") = False := eq_false (by decide +kernel)
@[simp] theorem sne_done_names : ((("done" : Str)) = "names") = False := eq_false (by decide +kernel)
@[simp] theorem sne_done_water : ((("done" : Str)) = "water") = False := eq_false (by decide +kernel)
@[simp] theorem sne_done_passed : ((("done" : Str)) = "passed") = False := eq_false (by decide +kernel)
@[simp] theorem sne_done_crowns : ((("done" : Str)) = "crowns") = False := eq_false (by decide +kernel)
@[simp] theorem sne_crowns_rows : ((("crowns" : Str)) = "rows") = False := eq_false (by decide +kernel)
@[simp] theorem sne_crowns_end : ((("crowns" : Str)) = "end") = False := eq_false (by decide +kernel)
@[simp] theorem sne_crowns_due : ((("crowns" : Str)) = "due") = False := eq_false (by decide +kernel)
@[simp] theorem sne_crowns_now : ((("crowns" : Str)) = "now") = False := eq_false (by decide +kernel)
@[simp] theorem sne_crowns_row : ((("crowns" : Str)) = "row") = False := eq_false (by decide +kernel)
@[simp] theorem sne_crowns_logs : ((("crowns" : Str)) = "logs") = False := eq_false (by decide +kernel)
@[simp] theorem sne_crowns_names : ((("crowns" : Str)) = "names") = False := eq_false (by decide +kernel)
@[simp] theorem sne_crowns_water : ((("crowns" : Str)) = "water") = False := eq_false (by decide +kernel)
@[simp] theorem sne_crowns_passed : ((("crowns" : Str)) = "passed") = False := eq_false (by decide +kernel)
@[simp] theorem sne_crowns_done : ((("crowns" : Str)) = "done") = False := eq_false (by decide +kernel)
@[simp] theorem sne_Log_Bells : ((("Log" : Str)) = "Bells") = False := eq_false (by decide +kernel)
@[simp] theorem sne_Log_Lane : ((("Log" : Str)) = "Lane") = False := eq_false (by decide +kernel)
@[simp] theorem sne_Log_Crown : ((("Log" : Str)) = "Crown") = False := eq_false (by decide +kernel)
@[simp] theorem sne_Log_Desk : ((("Log" : Str)) = "Desk") = False := eq_false (by decide +kernel)
@[simp] theorem sne_Bells_Log : ((("Bells" : Str)) = "Log") = False := eq_false (by decide +kernel)
@[simp] theorem sne_Bells_Lane : ((("Bells" : Str)) = "Lane") = False := eq_false (by decide +kernel)
@[simp] theorem sne_Bells_Crown : ((("Bells" : Str)) = "Crown") = False := eq_false (by decide +kernel)
@[simp] theorem sne_Bells_Desk : ((("Bells" : Str)) = "Desk") = False := eq_false (by decide +kernel)
@[simp] theorem sne_Lane_Log : ((("Lane" : Str)) = "Log") = False := eq_false (by decide +kernel)
@[simp] theorem sne_Lane_Bells : ((("Lane" : Str)) = "Bells") = False := eq_false (by decide +kernel)
@[simp] theorem sne_Lane_Crown : ((("Lane" : Str)) = "Crown") = False := eq_false (by decide +kernel)
@[simp] theorem sne_Lane_Desk : ((("Lane" : Str)) = "Desk") = False := eq_false (by decide +kernel)
@[simp] theorem sne_Crown_Log : ((("Crown" : Str)) = "Log") = False := eq_false (by decide +kernel)
@[simp] theorem sne_Crown_Bells : ((("Crown" : Str)) = "Bells") = False := eq_false (by decide +kernel)
@[simp] theorem sne_Crown_Lane : ((("Crown" : Str)) = "Lane") = False := eq_false (by decide +kernel)
@[simp] theorem sne_Crown_Desk : ((("Crown" : Str)) = "Desk") = False := eq_false (by decide +kernel)
@[simp] theorem sne_Desk_Log : ((("Desk" : Str)) = "Log") = False := eq_false (by decide +kernel)
@[simp] theorem sne_Desk_Bells : ((("Desk" : Str)) = "Bells") = False := eq_false (by decide +kernel)
@[simp] theorem sne_Desk_Lane : ((("Desk" : Str)) = "Lane") = False := eq_false (by decide +kernel)
@[simp] theorem sne_Desk_Crown : ((("Desk" : Str)) = "Crown") = False := eq_false (by decide +kernel)
@[simp] theorem sne_join_leave : ((("join" : Str)) = "leave") = False := eq_false (by decide +kernel)
@[simp] theorem sne_join_turn : ((("join" : Str)) = "turn") = False := eq_false (by decide +kernel)
@[simp] theorem sne_join_about : ((("join" : Str)) = "about") = False := eq_false (by decide +kernel)
@[simp] theorem sne_join_go : ((("join" : Str)) = "go") = False := eq_false (by decide +kernel)
@[simp] theorem sne_join_watch : ((("join" : Str)) = "watch") = False := eq_false (by decide +kernel)
@[simp] theorem sne_join_unwatch : ((("join" : Str)) = "unwatch") = False := eq_false (by decide +kernel)
@[simp] theorem sne_leave_join : ((("leave" : Str)) = "join") = False := eq_false (by decide +kernel)
@[simp] theorem sne_leave_turn : ((("leave" : Str)) = "turn") = False := eq_false (by decide +kernel)
@[simp] theorem sne_leave_about : ((("leave" : Str)) = "about") = False := eq_false (by decide +kernel)
@[simp] theorem sne_leave_go : ((("leave" : Str)) = "go") = False := eq_false (by decide +kernel)
@[simp] theorem sne_leave_watch : ((("leave" : Str)) = "watch") = False := eq_false (by decide +kernel)
@[simp] theorem sne_leave_unwatch : ((("leave" : Str)) = "unwatch") = False := eq_false (by decide +kernel)
@[simp] theorem sne_turn_join : ((("turn" : Str)) = "join") = False := eq_false (by decide +kernel)
@[simp] theorem sne_turn_leave : ((("turn" : Str)) = "leave") = False := eq_false (by decide +kernel)
@[simp] theorem sne_turn_about : ((("turn" : Str)) = "about") = False := eq_false (by decide +kernel)
@[simp] theorem sne_turn_go : ((("turn" : Str)) = "go") = False := eq_false (by decide +kernel)
@[simp] theorem sne_turn_watch : ((("turn" : Str)) = "watch") = False := eq_false (by decide +kernel)
@[simp] theorem sne_turn_unwatch : ((("turn" : Str)) = "unwatch") = False := eq_false (by decide +kernel)
@[simp] theorem sne_about_join : ((("about" : Str)) = "join") = False := eq_false (by decide +kernel)
@[simp] theorem sne_about_leave : ((("about" : Str)) = "leave") = False := eq_false (by decide +kernel)
@[simp] theorem sne_about_turn : ((("about" : Str)) = "turn") = False := eq_false (by decide +kernel)
@[simp] theorem sne_about_go : ((("about" : Str)) = "go") = False := eq_false (by decide +kernel)
@[simp] theorem sne_about_watch : ((("about" : Str)) = "watch") = False := eq_false (by decide +kernel)
@[simp] theorem sne_about_unwatch : ((("about" : Str)) = "unwatch") = False := eq_false (by decide +kernel)
@[simp] theorem sne_go_join : ((("go" : Str)) = "join") = False := eq_false (by decide +kernel)
@[simp] theorem sne_go_leave : ((("go" : Str)) = "leave") = False := eq_false (by decide +kernel)
@[simp] theorem sne_go_turn : ((("go" : Str)) = "turn") = False := eq_false (by decide +kernel)
@[simp] theorem sne_go_about : ((("go" : Str)) = "about") = False := eq_false (by decide +kernel)
@[simp] theorem sne_go_watch : ((("go" : Str)) = "watch") = False := eq_false (by decide +kernel)
@[simp] theorem sne_go_unwatch : ((("go" : Str)) = "unwatch") = False := eq_false (by decide +kernel)
@[simp] theorem sne_watch_join : ((("watch" : Str)) = "join") = False := eq_false (by decide +kernel)
@[simp] theorem sne_watch_leave : ((("watch" : Str)) = "leave") = False := eq_false (by decide +kernel)
@[simp] theorem sne_watch_turn : ((("watch" : Str)) = "turn") = False := eq_false (by decide +kernel)
@[simp] theorem sne_watch_about : ((("watch" : Str)) = "about") = False := eq_false (by decide +kernel)
@[simp] theorem sne_watch_go : ((("watch" : Str)) = "go") = False := eq_false (by decide +kernel)
@[simp] theorem sne_watch_unwatch : ((("watch" : Str)) = "unwatch") = False := eq_false (by decide +kernel)
@[simp] theorem sne_unwatch_join : ((("unwatch" : Str)) = "join") = False := eq_false (by decide +kernel)
@[simp] theorem sne_unwatch_leave : ((("unwatch" : Str)) = "leave") = False := eq_false (by decide +kernel)
@[simp] theorem sne_unwatch_turn : ((("unwatch" : Str)) = "turn") = False := eq_false (by decide +kernel)
@[simp] theorem sne_unwatch_about : ((("unwatch" : Str)) = "about") = False := eq_false (by decide +kernel)
@[simp] theorem sne_unwatch_go : ((("unwatch" : Str)) = "go") = False := eq_false (by decide +kernel)
@[simp] theorem sne_unwatch_watch : ((("unwatch" : Str)) = "watch") = False := eq_false (by decide +kernel)
@[simp] theorem sne_BadName_Taken : ((("BadName" : Str)) = "Taken") = False := eq_false (by decide +kernel)
@[simp] theorem sne_BadName_Full : ((("BadName" : Str)) = "Full") = False := eq_false (by decide +kernel)
@[simp] theorem sne_BadName_NoCraft : ((("BadName" : Str)) = "NoCraft") = False := eq_false (by decide +kernel)
@[simp] theorem sne_BadName_TooFar : ((("BadName" : Str)) = "TooFar") = False := eq_false (by decide +kernel)
@[simp] theorem sne_BadName_BadMoment : ((("BadName" : Str)) = "BadMoment") = False := eq_false (by decide +kernel)
@[simp] theorem sne_BadName_Past : ((("BadName" : Str)) = "Past") = False := eq_false (by decide +kernel)
@[simp] theorem sne_BadName_NotThere : ((("BadName" : Str)) = "NotThere") = False := eq_false (by decide +kernel)
@[simp] theorem sne_BadName_NoWatch : ((("BadName" : Str)) = "NoWatch") = False := eq_false (by decide +kernel)
@[simp] theorem sne_BadName_NoTale : ((("BadName" : Str)) = "NoTale") = False := eq_false (by decide +kernel)
@[simp] theorem sne_BadName_E : ((("BadName" : Str)) = "") = False := eq_false (by decide +kernel)
@[simp] theorem sne_Taken_BadName : ((("Taken" : Str)) = "BadName") = False := eq_false (by decide +kernel)
@[simp] theorem sne_Taken_Full : ((("Taken" : Str)) = "Full") = False := eq_false (by decide +kernel)
@[simp] theorem sne_Taken_NoCraft : ((("Taken" : Str)) = "NoCraft") = False := eq_false (by decide +kernel)
@[simp] theorem sne_Taken_TooFar : ((("Taken" : Str)) = "TooFar") = False := eq_false (by decide +kernel)
@[simp] theorem sne_Taken_BadMoment : ((("Taken" : Str)) = "BadMoment") = False := eq_false (by decide +kernel)
@[simp] theorem sne_Taken_Past : ((("Taken" : Str)) = "Past") = False := eq_false (by decide +kernel)
@[simp] theorem sne_Taken_NotThere : ((("Taken" : Str)) = "NotThere") = False := eq_false (by decide +kernel)
@[simp] theorem sne_Taken_NoWatch : ((("Taken" : Str)) = "NoWatch") = False := eq_false (by decide +kernel)
@[simp] theorem sne_Taken_NoTale : ((("Taken" : Str)) = "NoTale") = False := eq_false (by decide +kernel)
@[simp] theorem sne_Taken_E : ((("Taken" : Str)) = "") = False := eq_false (by decide +kernel)
@[simp] theorem sne_Full_BadName : ((("Full" : Str)) = "BadName") = False := eq_false (by decide +kernel)
@[simp] theorem sne_Full_Taken : ((("Full" : Str)) = "Taken") = False := eq_false (by decide +kernel)
@[simp] theorem sne_Full_NoCraft : ((("Full" : Str)) = "NoCraft") = False := eq_false (by decide +kernel)
@[simp] theorem sne_Full_TooFar : ((("Full" : Str)) = "TooFar") = False := eq_false (by decide +kernel)
@[simp] theorem sne_Full_BadMoment : ((("Full" : Str)) = "BadMoment") = False := eq_false (by decide +kernel)
@[simp] theorem sne_Full_Past : ((("Full" : Str)) = "Past") = False := eq_false (by decide +kernel)
@[simp] theorem sne_Full_NotThere : ((("Full" : Str)) = "NotThere") = False := eq_false (by decide +kernel)
@[simp] theorem sne_Full_NoWatch : ((("Full" : Str)) = "NoWatch") = False := eq_false (by decide +kernel)
@[simp] theorem sne_Full_NoTale : ((("Full" : Str)) = "NoTale") = False := eq_false (by decide +kernel)
@[simp] theorem sne_Full_E : ((("Full" : Str)) = "") = False := eq_false (by decide +kernel)
@[simp] theorem sne_NoCraft_BadName : ((("NoCraft" : Str)) = "BadName") = False := eq_false (by decide +kernel)
@[simp] theorem sne_NoCraft_Taken : ((("NoCraft" : Str)) = "Taken") = False := eq_false (by decide +kernel)
@[simp] theorem sne_NoCraft_Full : ((("NoCraft" : Str)) = "Full") = False := eq_false (by decide +kernel)
@[simp] theorem sne_NoCraft_TooFar : ((("NoCraft" : Str)) = "TooFar") = False := eq_false (by decide +kernel)
@[simp] theorem sne_NoCraft_BadMoment : ((("NoCraft" : Str)) = "BadMoment") = False := eq_false (by decide +kernel)
@[simp] theorem sne_NoCraft_Past : ((("NoCraft" : Str)) = "Past") = False := eq_false (by decide +kernel)
@[simp] theorem sne_NoCraft_NotThere : ((("NoCraft" : Str)) = "NotThere") = False := eq_false (by decide +kernel)
@[simp] theorem sne_NoCraft_NoWatch : ((("NoCraft" : Str)) = "NoWatch") = False := eq_false (by decide +kernel)
@[simp] theorem sne_NoCraft_NoTale : ((("NoCraft" : Str)) = "NoTale") = False := eq_false (by decide +kernel)
@[simp] theorem sne_NoCraft_E : ((("NoCraft" : Str)) = "") = False := eq_false (by decide +kernel)
@[simp] theorem sne_TooFar_BadName : ((("TooFar" : Str)) = "BadName") = False := eq_false (by decide +kernel)
@[simp] theorem sne_TooFar_Taken : ((("TooFar" : Str)) = "Taken") = False := eq_false (by decide +kernel)
@[simp] theorem sne_TooFar_Full : ((("TooFar" : Str)) = "Full") = False := eq_false (by decide +kernel)
@[simp] theorem sne_TooFar_NoCraft : ((("TooFar" : Str)) = "NoCraft") = False := eq_false (by decide +kernel)
@[simp] theorem sne_TooFar_BadMoment : ((("TooFar" : Str)) = "BadMoment") = False := eq_false (by decide +kernel)
@[simp] theorem sne_TooFar_Past : ((("TooFar" : Str)) = "Past") = False := eq_false (by decide +kernel)
@[simp] theorem sne_TooFar_NotThere : ((("TooFar" : Str)) = "NotThere") = False := eq_false (by decide +kernel)
@[simp] theorem sne_TooFar_NoWatch : ((("TooFar" : Str)) = "NoWatch") = False := eq_false (by decide +kernel)
@[simp] theorem sne_TooFar_NoTale : ((("TooFar" : Str)) = "NoTale") = False := eq_false (by decide +kernel)
@[simp] theorem sne_TooFar_E : ((("TooFar" : Str)) = "") = False := eq_false (by decide +kernel)
@[simp] theorem sne_BadMoment_BadName : ((("BadMoment" : Str)) = "BadName") = False := eq_false (by decide +kernel)
@[simp] theorem sne_BadMoment_Taken : ((("BadMoment" : Str)) = "Taken") = False := eq_false (by decide +kernel)
@[simp] theorem sne_BadMoment_Full : ((("BadMoment" : Str)) = "Full") = False := eq_false (by decide +kernel)
@[simp] theorem sne_BadMoment_NoCraft : ((("BadMoment" : Str)) = "NoCraft") = False := eq_false (by decide +kernel)
@[simp] theorem sne_BadMoment_TooFar : ((("BadMoment" : Str)) = "TooFar") = False := eq_false (by decide +kernel)
@[simp] theorem sne_BadMoment_Past : ((("BadMoment" : Str)) = "Past") = False := eq_false (by decide +kernel)
@[simp] theorem sne_BadMoment_NotThere : ((("BadMoment" : Str)) = "NotThere") = False := eq_false (by decide +kernel)
@[simp] theorem sne_BadMoment_NoWatch : ((("BadMoment" : Str)) = "NoWatch") = False := eq_false (by decide +kernel)
@[simp] theorem sne_BadMoment_NoTale : ((("BadMoment" : Str)) = "NoTale") = False := eq_false (by decide +kernel)
@[simp] theorem sne_BadMoment_E : ((("BadMoment" : Str)) = "") = False := eq_false (by decide +kernel)
@[simp] theorem sne_Past_BadName : ((("Past" : Str)) = "BadName") = False := eq_false (by decide +kernel)
@[simp] theorem sne_Past_Taken : ((("Past" : Str)) = "Taken") = False := eq_false (by decide +kernel)
@[simp] theorem sne_Past_Full : ((("Past" : Str)) = "Full") = False := eq_false (by decide +kernel)
@[simp] theorem sne_Past_NoCraft : ((("Past" : Str)) = "NoCraft") = False := eq_false (by decide +kernel)
@[simp] theorem sne_Past_TooFar : ((("Past" : Str)) = "TooFar") = False := eq_false (by decide +kernel)
@[simp] theorem sne_Past_BadMoment : ((("Past" : Str)) = "BadMoment") = False := eq_false (by decide +kernel)
@[simp] theorem sne_Past_NotThere : ((("Past" : Str)) = "NotThere") = False := eq_false (by decide +kernel)
@[simp] theorem sne_Past_NoWatch : ((("Past" : Str)) = "NoWatch") = False := eq_false (by decide +kernel)
@[simp] theorem sne_Past_NoTale : ((("Past" : Str)) = "NoTale") = False := eq_false (by decide +kernel)
@[simp] theorem sne_Past_E : ((("Past" : Str)) = "") = False := eq_false (by decide +kernel)
@[simp] theorem sne_NotThere_BadName : ((("NotThere" : Str)) = "BadName") = False := eq_false (by decide +kernel)
@[simp] theorem sne_NotThere_Taken : ((("NotThere" : Str)) = "Taken") = False := eq_false (by decide +kernel)
@[simp] theorem sne_NotThere_Full : ((("NotThere" : Str)) = "Full") = False := eq_false (by decide +kernel)
@[simp] theorem sne_NotThere_NoCraft : ((("NotThere" : Str)) = "NoCraft") = False := eq_false (by decide +kernel)
@[simp] theorem sne_NotThere_TooFar : ((("NotThere" : Str)) = "TooFar") = False := eq_false (by decide +kernel)
@[simp] theorem sne_NotThere_BadMoment : ((("NotThere" : Str)) = "BadMoment") = False := eq_false (by decide +kernel)
@[simp] theorem sne_NotThere_Past : ((("NotThere" : Str)) = "Past") = False := eq_false (by decide +kernel)
@[simp] theorem sne_NotThere_NoWatch : ((("NotThere" : Str)) = "NoWatch") = False := eq_false (by decide +kernel)
@[simp] theorem sne_NotThere_NoTale : ((("NotThere" : Str)) = "NoTale") = False := eq_false (by decide +kernel)
@[simp] theorem sne_NotThere_E : ((("NotThere" : Str)) = "") = False := eq_false (by decide +kernel)
@[simp] theorem sne_NoWatch_BadName : ((("NoWatch" : Str)) = "BadName") = False := eq_false (by decide +kernel)
@[simp] theorem sne_NoWatch_Taken : ((("NoWatch" : Str)) = "Taken") = False := eq_false (by decide +kernel)
@[simp] theorem sne_NoWatch_Full : ((("NoWatch" : Str)) = "Full") = False := eq_false (by decide +kernel)
@[simp] theorem sne_NoWatch_NoCraft : ((("NoWatch" : Str)) = "NoCraft") = False := eq_false (by decide +kernel)
@[simp] theorem sne_NoWatch_TooFar : ((("NoWatch" : Str)) = "TooFar") = False := eq_false (by decide +kernel)
@[simp] theorem sne_NoWatch_BadMoment : ((("NoWatch" : Str)) = "BadMoment") = False := eq_false (by decide +kernel)
@[simp] theorem sne_NoWatch_Past : ((("NoWatch" : Str)) = "Past") = False := eq_false (by decide +kernel)
@[simp] theorem sne_NoWatch_NotThere : ((("NoWatch" : Str)) = "NotThere") = False := eq_false (by decide +kernel)
@[simp] theorem sne_NoWatch_NoTale : ((("NoWatch" : Str)) = "NoTale") = False := eq_false (by decide +kernel)
@[simp] theorem sne_NoWatch_E : ((("NoWatch" : Str)) = "") = False := eq_false (by decide +kernel)
@[simp] theorem sne_NoTale_BadName : ((("NoTale" : Str)) = "BadName") = False := eq_false (by decide +kernel)
@[simp] theorem sne_NoTale_Taken : ((("NoTale" : Str)) = "Taken") = False := eq_false (by decide +kernel)
@[simp] theorem sne_NoTale_Full : ((("NoTale" : Str)) = "Full") = False := eq_false (by decide +kernel)
@[simp] theorem sne_NoTale_NoCraft : ((("NoTale" : Str)) = "NoCraft") = False := eq_false (by decide +kernel)
@[simp] theorem sne_NoTale_TooFar : ((("NoTale" : Str)) = "TooFar") = False := eq_false (by decide +kernel)
@[simp] theorem sne_NoTale_BadMoment : ((("NoTale" : Str)) = "BadMoment") = False := eq_false (by decide +kernel)
@[simp] theorem sne_NoTale_Past : ((("NoTale" : Str)) = "Past") = False := eq_false (by decide +kernel)
@[simp] theorem sne_NoTale_NotThere : ((("NoTale" : Str)) = "NotThere") = False := eq_false (by decide +kernel)
@[simp] theorem sne_NoTale_NoWatch : ((("NoTale" : Str)) = "NoWatch") = False := eq_false (by decide +kernel)
@[simp] theorem sne_NoTale_E : ((("NoTale" : Str)) = "") = False := eq_false (by decide +kernel)
@[simp] theorem sne_E_BadName : ((("" : Str)) = "BadName") = False := eq_false (by decide +kernel)
@[simp] theorem sne_E_Taken : ((("" : Str)) = "Taken") = False := eq_false (by decide +kernel)
@[simp] theorem sne_E_Full : ((("" : Str)) = "Full") = False := eq_false (by decide +kernel)
@[simp] theorem sne_E_NoCraft : ((("" : Str)) = "NoCraft") = False := eq_false (by decide +kernel)
@[simp] theorem sne_E_TooFar : ((("" : Str)) = "TooFar") = False := eq_false (by decide +kernel)
@[simp] theorem sne_E_BadMoment : ((("" : Str)) = "BadMoment") = False := eq_false (by decide +kernel)
@[simp] theorem sne_E_Past : ((("" : Str)) = "Past") = False := eq_false (by decide +kernel)
@[simp] theorem sne_E_NotThere : ((("" : Str)) = "NotThere") = False := eq_false (by decide +kernel)
@[simp] theorem sne_E_NoWatch : ((("" : Str)) = "NoWatch") = False := eq_false (by decide +kernel)
@[simp] theorem sne_E_NoTale : ((("" : Str)) = "NoTale") = False := eq_false (by decide +kernel)
@[simp] theorem sne_legs_rows : ((("legs" : Str)) = "rows") = False := eq_false (by decide +kernel)
@[simp] theorem sne_legs_gone : ((("legs" : Str)) = "gone") = False := eq_false (by decide +kernel)
@[simp] theorem sne_legs_on : ((("legs" : Str)) = "on") = False := eq_false (by decide +kernel)
@[simp] theorem sne_legs_book : ((("legs" : Str)) = "book") = False := eq_false (by decide +kernel)
@[simp] theorem sne_legs_journal : ((("legs" : Str)) = "journal") = False := eq_false (by decide +kernel)
@[simp] theorem sne_legs_clock : ((("legs" : Str)) = "clock") = False := eq_false (by decide +kernel)
@[simp] theorem sne_rows_legs : ((("rows" : Str)) = "legs") = False := eq_false (by decide +kernel)
@[simp] theorem sne_rows_gone : ((("rows" : Str)) = "gone") = False := eq_false (by decide +kernel)
@[simp] theorem sne_rows_on : ((("rows" : Str)) = "on") = False := eq_false (by decide +kernel)
@[simp] theorem sne_rows_book : ((("rows" : Str)) = "book") = False := eq_false (by decide +kernel)
@[simp] theorem sne_rows_journal : ((("rows" : Str)) = "journal") = False := eq_false (by decide +kernel)
@[simp] theorem sne_rows_clock : ((("rows" : Str)) = "clock") = False := eq_false (by decide +kernel)
@[simp] theorem sne_gone_legs : ((("gone" : Str)) = "legs") = False := eq_false (by decide +kernel)
@[simp] theorem sne_gone_rows : ((("gone" : Str)) = "rows") = False := eq_false (by decide +kernel)
@[simp] theorem sne_gone_on : ((("gone" : Str)) = "on") = False := eq_false (by decide +kernel)
@[simp] theorem sne_gone_book : ((("gone" : Str)) = "book") = False := eq_false (by decide +kernel)
@[simp] theorem sne_gone_journal : ((("gone" : Str)) = "journal") = False := eq_false (by decide +kernel)
@[simp] theorem sne_gone_clock : ((("gone" : Str)) = "clock") = False := eq_false (by decide +kernel)
@[simp] theorem sne_on_legs : ((("on" : Str)) = "legs") = False := eq_false (by decide +kernel)
@[simp] theorem sne_on_rows : ((("on" : Str)) = "rows") = False := eq_false (by decide +kernel)
@[simp] theorem sne_on_gone : ((("on" : Str)) = "gone") = False := eq_false (by decide +kernel)
@[simp] theorem sne_on_book : ((("on" : Str)) = "book") = False := eq_false (by decide +kernel)
@[simp] theorem sne_on_journal : ((("on" : Str)) = "journal") = False := eq_false (by decide +kernel)
@[simp] theorem sne_on_clock : ((("on" : Str)) = "clock") = False := eq_false (by decide +kernel)
@[simp] theorem sne_book_legs : ((("book" : Str)) = "legs") = False := eq_false (by decide +kernel)
@[simp] theorem sne_book_rows : ((("book" : Str)) = "rows") = False := eq_false (by decide +kernel)
@[simp] theorem sne_book_gone : ((("book" : Str)) = "gone") = False := eq_false (by decide +kernel)
@[simp] theorem sne_book_on : ((("book" : Str)) = "on") = False := eq_false (by decide +kernel)
@[simp] theorem sne_book_journal : ((("book" : Str)) = "journal") = False := eq_false (by decide +kernel)
@[simp] theorem sne_book_clock : ((("book" : Str)) = "clock") = False := eq_false (by decide +kernel)
@[simp] theorem sne_journal_legs : ((("journal" : Str)) = "legs") = False := eq_false (by decide +kernel)
@[simp] theorem sne_journal_rows : ((("journal" : Str)) = "rows") = False := eq_false (by decide +kernel)
@[simp] theorem sne_journal_gone : ((("journal" : Str)) = "gone") = False := eq_false (by decide +kernel)
@[simp] theorem sne_journal_on : ((("journal" : Str)) = "on") = False := eq_false (by decide +kernel)
@[simp] theorem sne_journal_book : ((("journal" : Str)) = "book") = False := eq_false (by decide +kernel)
@[simp] theorem sne_journal_clock : ((("journal" : Str)) = "clock") = False := eq_false (by decide +kernel)
@[simp] theorem sne_clock_legs : ((("clock" : Str)) = "legs") = False := eq_false (by decide +kernel)
@[simp] theorem sne_clock_rows : ((("clock" : Str)) = "rows") = False := eq_false (by decide +kernel)
@[simp] theorem sne_clock_gone : ((("clock" : Str)) = "gone") = False := eq_false (by decide +kernel)
@[simp] theorem sne_clock_on : ((("clock" : Str)) = "on") = False := eq_false (by decide +kernel)
@[simp] theorem sne_clock_book : ((("clock" : Str)) = "book") = False := eq_false (by decide +kernel)
@[simp] theorem sne_clock_journal : ((("clock" : Str)) = "journal") = False := eq_false (by decide +kernel)
@[simp] theorem sne_up_down : ((("up" : Str)) = "down") = False := eq_false (by decide +kernel)
@[simp] theorem sne_down_up : ((("down" : Str)) = "up") = False := eq_false (by decide +kernel)
@[simp] theorem sne_turn_rows : ((("turn" : Str)) = "rows") = False := eq_false (by decide +kernel)
@[simp] theorem sne_turn_end : ((("turn" : Str)) = "end") = False := eq_false (by decide +kernel)
@[simp] theorem sne_turn_due : ((("turn" : Str)) = "due") = False := eq_false (by decide +kernel)
@[simp] theorem sne_turn_now : ((("turn" : Str)) = "now") = False := eq_false (by decide +kernel)
@[simp] theorem sne_turn_row : ((("turn" : Str)) = "row") = False := eq_false (by decide +kernel)
@[simp] theorem sne_turn_logs : ((("turn" : Str)) = "logs") = False := eq_false (by decide +kernel)
@[simp] theorem sne_turn_names : ((("turn" : Str)) = "names") = False := eq_false (by decide +kernel)
@[simp] theorem sne_turn_water : ((("turn" : Str)) = "water") = False := eq_false (by decide +kernel)
@[simp] theorem sne_turn_passed : ((("turn" : Str)) = "passed") = False := eq_false (by decide +kernel)
@[simp] theorem sne_turn_done : ((("turn" : Str)) = "done") = False := eq_false (by decide +kernel)
@[simp] theorem sne_turn_crowns : ((("turn" : Str)) = "crowns") = False := eq_false (by decide +kernel)
@[simp] theorem sne_leave_rows : ((("leave" : Str)) = "rows") = False := eq_false (by decide +kernel)
@[simp] theorem sne_leave_end : ((("leave" : Str)) = "end") = False := eq_false (by decide +kernel)
@[simp] theorem sne_leave_due : ((("leave" : Str)) = "due") = False := eq_false (by decide +kernel)
@[simp] theorem sne_leave_now : ((("leave" : Str)) = "now") = False := eq_false (by decide +kernel)
@[simp] theorem sne_leave_row : ((("leave" : Str)) = "row") = False := eq_false (by decide +kernel)
@[simp] theorem sne_leave_logs : ((("leave" : Str)) = "logs") = False := eq_false (by decide +kernel)
@[simp] theorem sne_leave_names : ((("leave" : Str)) = "names") = False := eq_false (by decide +kernel)
@[simp] theorem sne_leave_water : ((("leave" : Str)) = "water") = False := eq_false (by decide +kernel)
@[simp] theorem sne_leave_passed : ((("leave" : Str)) = "passed") = False := eq_false (by decide +kernel)
@[simp] theorem sne_leave_done : ((("leave" : Str)) = "done") = False := eq_false (by decide +kernel)
@[simp] theorem sne_leave_crowns : ((("leave" : Str)) = "crowns") = False := eq_false (by decide +kernel)
@[simp] theorem sne_legs_end : ((("legs" : Str)) = "end") = False := eq_false (by decide +kernel)
@[simp] theorem sne_legs_due : ((("legs" : Str)) = "due") = False := eq_false (by decide +kernel)
@[simp] theorem sne_legs_now : ((("legs" : Str)) = "now") = False := eq_false (by decide +kernel)
@[simp] theorem sne_legs_row : ((("legs" : Str)) = "row") = False := eq_false (by decide +kernel)
@[simp] theorem sne_legs_logs : ((("legs" : Str)) = "logs") = False := eq_false (by decide +kernel)
@[simp] theorem sne_legs_names : ((("legs" : Str)) = "names") = False := eq_false (by decide +kernel)
@[simp] theorem sne_legs_water : ((("legs" : Str)) = "water") = False := eq_false (by decide +kernel)
@[simp] theorem sne_legs_passed : ((("legs" : Str)) = "passed") = False := eq_false (by decide +kernel)
@[simp] theorem sne_legs_done : ((("legs" : Str)) = "done") = False := eq_false (by decide +kernel)
@[simp] theorem sne_legs_crowns : ((("legs" : Str)) = "crowns") = False := eq_false (by decide +kernel)
@[simp] theorem sne_last_leg_rows : ((("last_leg" : Str)) = "rows") = False := eq_false (by decide +kernel)
@[simp] theorem sne_last_leg_end : ((("last_leg" : Str)) = "end") = False := eq_false (by decide +kernel)
@[simp] theorem sne_last_leg_due : ((("last_leg" : Str)) = "due") = False := eq_false (by decide +kernel)
@[simp] theorem sne_last_leg_now : ((("last_leg" : Str)) = "now") = False := eq_false (by decide +kernel)
@[simp] theorem sne_last_leg_row : ((("last_leg" : Str)) = "row") = False := eq_false (by decide +kernel)
@[simp] theorem sne_last_leg_logs : ((("last_leg" : Str)) = "logs") = False := eq_false (by decide +kernel)
@[simp] theorem sne_last_leg_names : ((("last_leg" : Str)) = "names") = False := eq_false (by decide +kernel)
@[simp] theorem sne_last_leg_water : ((("last_leg" : Str)) = "water") = False := eq_false (by decide +kernel)
@[simp] theorem sne_last_leg_passed : ((("last_leg" : Str)) = "passed") = False := eq_false (by decide +kernel)
@[simp] theorem sne_last_leg_done : ((("last_leg" : Str)) = "done") = False := eq_false (by decide +kernel)
@[simp] theorem sne_last_leg_crowns : ((("last_leg" : Str)) = "crowns") = False := eq_false (by decide +kernel)
@[simp] theorem sne_left_rows : ((("left" : Str)) = "rows") = False := eq_false (by decide +kernel)
@[simp] theorem sne_left_end : ((("left" : Str)) = "end") = False := eq_false (by decide +kernel)
@[simp] theorem sne_left_due : ((("left" : Str)) = "due") = False := eq_false (by decide +kernel)
@[simp] theorem sne_left_now : ((("left" : Str)) = "now") = False := eq_false (by decide +kernel)
@[simp] theorem sne_left_row : ((("left" : Str)) = "row") = False := eq_false (by decide +kernel)
@[simp] theorem sne_left_logs : ((("left" : Str)) = "logs") = False := eq_false (by decide +kernel)
@[simp] theorem sne_left_names : ((("left" : Str)) = "names") = False := eq_false (by decide +kernel)
@[simp] theorem sne_left_water : ((("left" : Str)) = "water") = False := eq_false (by decide +kernel)
@[simp] theorem sne_left_passed : ((("left" : Str)) = "passed") = False := eq_false (by decide +kernel)
@[simp] theorem sne_left_done : ((("left" : Str)) = "done") = False := eq_false (by decide +kernel)
@[simp] theorem sne_left_crowns : ((("left" : Str)) = "crowns") = False := eq_false (by decide +kernel)
@[simp] theorem sne_there_rows : ((("there" : Str)) = "rows") = False := eq_false (by decide +kernel)
@[simp] theorem sne_there_end : ((("there" : Str)) = "end") = False := eq_false (by decide +kernel)
@[simp] theorem sne_there_due : ((("there" : Str)) = "due") = False := eq_false (by decide +kernel)
@[simp] theorem sne_there_now : ((("there" : Str)) = "now") = False := eq_false (by decide +kernel)
@[simp] theorem sne_there_row : ((("there" : Str)) = "row") = False := eq_false (by decide +kernel)
@[simp] theorem sne_there_logs : ((("there" : Str)) = "logs") = False := eq_false (by decide +kernel)
@[simp] theorem sne_there_names : ((("there" : Str)) = "names") = False := eq_false (by decide +kernel)
@[simp] theorem sne_there_water : ((("there" : Str)) = "water") = False := eq_false (by decide +kernel)
@[simp] theorem sne_there_passed : ((("there" : Str)) = "passed") = False := eq_false (by decide +kernel)
@[simp] theorem sne_there_done : ((("there" : Str)) = "done") = False := eq_false (by decide +kernel)
@[simp] theorem sne_there_crowns : ((("there" : Str)) = "crowns") = False := eq_false (by decide +kernel)
@[simp] theorem sne_leg_at_rows : ((("leg_at" : Str)) = "rows") = False := eq_false (by decide +kernel)
@[simp] theorem sne_leg_at_end : ((("leg_at" : Str)) = "end") = False := eq_false (by decide +kernel)
@[simp] theorem sne_leg_at_due : ((("leg_at" : Str)) = "due") = False := eq_false (by decide +kernel)
@[simp] theorem sne_leg_at_now : ((("leg_at" : Str)) = "now") = False := eq_false (by decide +kernel)
@[simp] theorem sne_leg_at_row : ((("leg_at" : Str)) = "row") = False := eq_false (by decide +kernel)
@[simp] theorem sne_leg_at_logs : ((("leg_at" : Str)) = "logs") = False := eq_false (by decide +kernel)
@[simp] theorem sne_leg_at_names : ((("leg_at" : Str)) = "names") = False := eq_false (by decide +kernel)
@[simp] theorem sne_leg_at_water : ((("leg_at" : Str)) = "water") = False := eq_false (by decide +kernel)
@[simp] theorem sne_leg_at_passed : ((("leg_at" : Str)) = "passed") = False := eq_false (by decide +kernel)
@[simp] theorem sne_leg_at_done : ((("leg_at" : Str)) = "done") = False := eq_false (by decide +kernel)
@[simp] theorem sne_leg_at_crowns : ((("leg_at" : Str)) = "crowns") = False := eq_false (by decide +kernel)
@[simp] theorem sne_place_rows : ((("place" : Str)) = "rows") = False := eq_false (by decide +kernel)
@[simp] theorem sne_place_end : ((("place" : Str)) = "end") = False := eq_false (by decide +kernel)
@[simp] theorem sne_place_due : ((("place" : Str)) = "due") = False := eq_false (by decide +kernel)
@[simp] theorem sne_place_now : ((("place" : Str)) = "now") = False := eq_false (by decide +kernel)
@[simp] theorem sne_place_row : ((("place" : Str)) = "row") = False := eq_false (by decide +kernel)
@[simp] theorem sne_place_logs : ((("place" : Str)) = "logs") = False := eq_false (by decide +kernel)
@[simp] theorem sne_place_names : ((("place" : Str)) = "names") = False := eq_false (by decide +kernel)
@[simp] theorem sne_place_water : ((("place" : Str)) = "water") = False := eq_false (by decide +kernel)
@[simp] theorem sne_place_passed : ((("place" : Str)) = "passed") = False := eq_false (by decide +kernel)
@[simp] theorem sne_place_done : ((("place" : Str)) = "done") = False := eq_false (by decide +kernel)
@[simp] theorem sne_place_crowns : ((("place" : Str)) = "crowns") = False := eq_false (by decide +kernel)
@[simp] theorem sne_twin_rows : ((("twin" : Str)) = "rows") = False := eq_false (by decide +kernel)
@[simp] theorem sne_twin_end : ((("twin" : Str)) = "end") = False := eq_false (by decide +kernel)
@[simp] theorem sne_twin_due : ((("twin" : Str)) = "due") = False := eq_false (by decide +kernel)
@[simp] theorem sne_twin_now : ((("twin" : Str)) = "now") = False := eq_false (by decide +kernel)
@[simp] theorem sne_twin_row : ((("twin" : Str)) = "row") = False := eq_false (by decide +kernel)
@[simp] theorem sne_twin_logs : ((("twin" : Str)) = "logs") = False := eq_false (by decide +kernel)
@[simp] theorem sne_twin_names : ((("twin" : Str)) = "names") = False := eq_false (by decide +kernel)
@[simp] theorem sne_twin_water : ((("twin" : Str)) = "water") = False := eq_false (by decide +kernel)
@[simp] theorem sne_twin_passed : ((("twin" : Str)) = "passed") = False := eq_false (by decide +kernel)
@[simp] theorem sne_twin_done : ((("twin" : Str)) = "done") = False := eq_false (by decide +kernel)
@[simp] theorem sne_twin_crowns : ((("twin" : Str)) = "crowns") = False := eq_false (by decide +kernel)
@[simp] theorem sne_spot_rows : ((("spot" : Str)) = "rows") = False := eq_false (by decide +kernel)
@[simp] theorem sne_spot_end : ((("spot" : Str)) = "end") = False := eq_false (by decide +kernel)
@[simp] theorem sne_spot_due : ((("spot" : Str)) = "due") = False := eq_false (by decide +kernel)
@[simp] theorem sne_spot_now : ((("spot" : Str)) = "now") = False := eq_false (by decide +kernel)
@[simp] theorem sne_spot_row : ((("spot" : Str)) = "row") = False := eq_false (by decide +kernel)
@[simp] theorem sne_spot_logs : ((("spot" : Str)) = "logs") = False := eq_false (by decide +kernel)
@[simp] theorem sne_spot_names : ((("spot" : Str)) = "names") = False := eq_false (by decide +kernel)
@[simp] theorem sne_spot_water : ((("spot" : Str)) = "water") = False := eq_false (by decide +kernel)
@[simp] theorem sne_spot_passed : ((("spot" : Str)) = "passed") = False := eq_false (by decide +kernel)
@[simp] theorem sne_spot_done : ((("spot" : Str)) = "done") = False := eq_false (by decide +kernel)
@[simp] theorem sne_spot_crowns : ((("spot" : Str)) = "crowns") = False := eq_false (by decide +kernel)
@[simp] theorem sne_put_rows : ((("put" : Str)) = "rows") = False := eq_false (by decide +kernel)
@[simp] theorem sne_put_end : ((("put" : Str)) = "end") = False := eq_false (by decide +kernel)
@[simp] theorem sne_put_due : ((("put" : Str)) = "due") = False := eq_false (by decide +kernel)
@[simp] theorem sne_put_now : ((("put" : Str)) = "now") = False := eq_false (by decide +kernel)
@[simp] theorem sne_put_row : ((("put" : Str)) = "row") = False := eq_false (by decide +kernel)
@[simp] theorem sne_put_logs : ((("put" : Str)) = "logs") = False := eq_false (by decide +kernel)
@[simp] theorem sne_put_names : ((("put" : Str)) = "names") = False := eq_false (by decide +kernel)
@[simp] theorem sne_put_water : ((("put" : Str)) = "water") = False := eq_false (by decide +kernel)
@[simp] theorem sne_put_passed : ((("put" : Str)) = "passed") = False := eq_false (by decide +kernel)
@[simp] theorem sne_put_done : ((("put" : Str)) = "done") = False := eq_false (by decide +kernel)
@[simp] theorem sne_put_crowns : ((("put" : Str)) = "crowns") = False := eq_false (by decide +kernel)
@[simp] theorem sne_drop_rows : ((("drop" : Str)) = "rows") = False := eq_false (by decide +kernel)
@[simp] theorem sne_drop_end : ((("drop" : Str)) = "end") = False := eq_false (by decide +kernel)
@[simp] theorem sne_drop_due : ((("drop" : Str)) = "due") = False := eq_false (by decide +kernel)
@[simp] theorem sne_drop_now : ((("drop" : Str)) = "now") = False := eq_false (by decide +kernel)
@[simp] theorem sne_drop_row : ((("drop" : Str)) = "row") = False := eq_false (by decide +kernel)
@[simp] theorem sne_drop_logs : ((("drop" : Str)) = "logs") = False := eq_false (by decide +kernel)
@[simp] theorem sne_drop_names : ((("drop" : Str)) = "names") = False := eq_false (by decide +kernel)
@[simp] theorem sne_drop_water : ((("drop" : Str)) = "water") = False := eq_false (by decide +kernel)
@[simp] theorem sne_drop_passed : ((("drop" : Str)) = "passed") = False := eq_false (by decide +kernel)
@[simp] theorem sne_drop_done : ((("drop" : Str)) = "done") = False := eq_false (by decide +kernel)
@[simp] theorem sne_drop_crowns : ((("drop" : Str)) = "crowns") = False := eq_false (by decide +kernel)
@[simp] theorem sne_first_rows : ((("first" : Str)) = "rows") = False := eq_false (by decide +kernel)
@[simp] theorem sne_first_end : ((("first" : Str)) = "end") = False := eq_false (by decide +kernel)
@[simp] theorem sne_first_due : ((("first" : Str)) = "due") = False := eq_false (by decide +kernel)
@[simp] theorem sne_first_now : ((("first" : Str)) = "now") = False := eq_false (by decide +kernel)
@[simp] theorem sne_first_row : ((("first" : Str)) = "row") = False := eq_false (by decide +kernel)
@[simp] theorem sne_first_logs : ((("first" : Str)) = "logs") = False := eq_false (by decide +kernel)
@[simp] theorem sne_first_names : ((("first" : Str)) = "names") = False := eq_false (by decide +kernel)
@[simp] theorem sne_first_water : ((("first" : Str)) = "water") = False := eq_false (by decide +kernel)
@[simp] theorem sne_first_passed : ((("first" : Str)) = "passed") = False := eq_false (by decide +kernel)
@[simp] theorem sne_first_done : ((("first" : Str)) = "done") = False := eq_false (by decide +kernel)
@[simp] theorem sne_first_crowns : ((("first" : Str)) = "crowns") = False := eq_false (by decide +kernel)
@[simp] theorem sne_take_rows : ((("take" : Str)) = "rows") = False := eq_false (by decide +kernel)
@[simp] theorem sne_take_end : ((("take" : Str)) = "end") = False := eq_false (by decide +kernel)
@[simp] theorem sne_take_due : ((("take" : Str)) = "due") = False := eq_false (by decide +kernel)
@[simp] theorem sne_take_now : ((("take" : Str)) = "now") = False := eq_false (by decide +kernel)
@[simp] theorem sne_take_row : ((("take" : Str)) = "row") = False := eq_false (by decide +kernel)
@[simp] theorem sne_take_logs : ((("take" : Str)) = "logs") = False := eq_false (by decide +kernel)
@[simp] theorem sne_take_names : ((("take" : Str)) = "names") = False := eq_false (by decide +kernel)
@[simp] theorem sne_take_water : ((("take" : Str)) = "water") = False := eq_false (by decide +kernel)
@[simp] theorem sne_take_passed : ((("take" : Str)) = "passed") = False := eq_false (by decide +kernel)
@[simp] theorem sne_take_done : ((("take" : Str)) = "done") = False := eq_false (by decide +kernel)
@[simp] theorem sne_take_crowns : ((("take" : Str)) = "crowns") = False := eq_false (by decide +kernel)
@[simp] theorem sne_told_rows : ((("told" : Str)) = "rows") = False := eq_false (by decide +kernel)
@[simp] theorem sne_told_end : ((("told" : Str)) = "end") = False := eq_false (by decide +kernel)
@[simp] theorem sne_told_due : ((("told" : Str)) = "due") = False := eq_false (by decide +kernel)
@[simp] theorem sne_told_now : ((("told" : Str)) = "now") = False := eq_false (by decide +kernel)
@[simp] theorem sne_told_row : ((("told" : Str)) = "row") = False := eq_false (by decide +kernel)
@[simp] theorem sne_told_logs : ((("told" : Str)) = "logs") = False := eq_false (by decide +kernel)
@[simp] theorem sne_told_names : ((("told" : Str)) = "names") = False := eq_false (by decide +kernel)
@[simp] theorem sne_told_water : ((("told" : Str)) = "water") = False := eq_false (by decide +kernel)
@[simp] theorem sne_told_passed : ((("told" : Str)) = "passed") = False := eq_false (by decide +kernel)
@[simp] theorem sne_told_done : ((("told" : Str)) = "done") = False := eq_false (by decide +kernel)
@[simp] theorem sne_told_crowns : ((("told" : Str)) = "crowns") = False := eq_false (by decide +kernel)
@[simp] theorem sne_leg_of_rows : ((("leg_of" : Str)) = "rows") = False := eq_false (by decide +kernel)
@[simp] theorem sne_leg_of_end : ((("leg_of" : Str)) = "end") = False := eq_false (by decide +kernel)
@[simp] theorem sne_leg_of_due : ((("leg_of" : Str)) = "due") = False := eq_false (by decide +kernel)
@[simp] theorem sne_leg_of_now : ((("leg_of" : Str)) = "now") = False := eq_false (by decide +kernel)
@[simp] theorem sne_leg_of_row : ((("leg_of" : Str)) = "row") = False := eq_false (by decide +kernel)
@[simp] theorem sne_leg_of_logs : ((("leg_of" : Str)) = "logs") = False := eq_false (by decide +kernel)
@[simp] theorem sne_leg_of_names : ((("leg_of" : Str)) = "names") = False := eq_false (by decide +kernel)
@[simp] theorem sne_leg_of_water : ((("leg_of" : Str)) = "water") = False := eq_false (by decide +kernel)
@[simp] theorem sne_leg_of_passed : ((("leg_of" : Str)) = "passed") = False := eq_false (by decide +kernel)
@[simp] theorem sne_leg_of_done : ((("leg_of" : Str)) = "done") = False := eq_false (by decide +kernel)
@[simp] theorem sne_leg_of_crowns : ((("leg_of" : Str)) = "crowns") = False := eq_false (by decide +kernel)
@[simp] theorem sne_legs_now_rows : ((("legs_now" : Str)) = "rows") = False := eq_false (by decide +kernel)
@[simp] theorem sne_legs_now_end : ((("legs_now" : Str)) = "end") = False := eq_false (by decide +kernel)
@[simp] theorem sne_legs_now_due : ((("legs_now" : Str)) = "due") = False := eq_false (by decide +kernel)
@[simp] theorem sne_legs_now_now : ((("legs_now" : Str)) = "now") = False := eq_false (by decide +kernel)
@[simp] theorem sne_legs_now_row : ((("legs_now" : Str)) = "row") = False := eq_false (by decide +kernel)
@[simp] theorem sne_legs_now_logs : ((("legs_now" : Str)) = "logs") = False := eq_false (by decide +kernel)
@[simp] theorem sne_legs_now_names : ((("legs_now" : Str)) = "names") = False := eq_false (by decide +kernel)
@[simp] theorem sne_legs_now_water : ((("legs_now" : Str)) = "water") = False := eq_false (by decide +kernel)
@[simp] theorem sne_legs_now_passed : ((("legs_now" : Str)) = "passed") = False := eq_false (by decide +kernel)
@[simp] theorem sne_legs_now_done : ((("legs_now" : Str)) = "done") = False := eq_false (by decide +kernel)
@[simp] theorem sne_legs_now_crowns : ((("legs_now" : Str)) = "crowns") = False := eq_false (by decide +kernel)
@[simp] theorem sne_ring_rows : ((("ring" : Str)) = "rows") = False := eq_false (by decide +kernel)
@[simp] theorem sne_ring_end : ((("ring" : Str)) = "end") = False := eq_false (by decide +kernel)
@[simp] theorem sne_ring_due : ((("ring" : Str)) = "due") = False := eq_false (by decide +kernel)
@[simp] theorem sne_ring_now : ((("ring" : Str)) = "now") = False := eq_false (by decide +kernel)
@[simp] theorem sne_ring_row : ((("ring" : Str)) = "row") = False := eq_false (by decide +kernel)
@[simp] theorem sne_ring_logs : ((("ring" : Str)) = "logs") = False := eq_false (by decide +kernel)
@[simp] theorem sne_ring_names : ((("ring" : Str)) = "names") = False := eq_false (by decide +kernel)
@[simp] theorem sne_ring_water : ((("ring" : Str)) = "water") = False := eq_false (by decide +kernel)
@[simp] theorem sne_ring_passed : ((("ring" : Str)) = "passed") = False := eq_false (by decide +kernel)
@[simp] theorem sne_ring_done : ((("ring" : Str)) = "done") = False := eq_false (by decide +kernel)
@[simp] theorem sne_ring_crowns : ((("ring" : Str)) = "crowns") = False := eq_false (by decide +kernel)
@[simp] theorem sne_put_in_rows : ((("put_in" : Str)) = "rows") = False := eq_false (by decide +kernel)
@[simp] theorem sne_put_in_end : ((("put_in" : Str)) = "end") = False := eq_false (by decide +kernel)
@[simp] theorem sne_put_in_due : ((("put_in" : Str)) = "due") = False := eq_false (by decide +kernel)
@[simp] theorem sne_put_in_now : ((("put_in" : Str)) = "now") = False := eq_false (by decide +kernel)
@[simp] theorem sne_put_in_row : ((("put_in" : Str)) = "row") = False := eq_false (by decide +kernel)
@[simp] theorem sne_put_in_logs : ((("put_in" : Str)) = "logs") = False := eq_false (by decide +kernel)
@[simp] theorem sne_put_in_names : ((("put_in" : Str)) = "names") = False := eq_false (by decide +kernel)
@[simp] theorem sne_put_in_water : ((("put_in" : Str)) = "water") = False := eq_false (by decide +kernel)
@[simp] theorem sne_put_in_passed : ((("put_in" : Str)) = "passed") = False := eq_false (by decide +kernel)
@[simp] theorem sne_put_in_done : ((("put_in" : Str)) = "done") = False := eq_false (by decide +kernel)
@[simp] theorem sne_put_in_crowns : ((("put_in" : Str)) = "crowns") = False := eq_false (by decide +kernel)
@[simp] theorem sne_take_out_rows : ((("take_out" : Str)) = "rows") = False := eq_false (by decide +kernel)
@[simp] theorem sne_take_out_end : ((("take_out" : Str)) = "end") = False := eq_false (by decide +kernel)
@[simp] theorem sne_take_out_due : ((("take_out" : Str)) = "due") = False := eq_false (by decide +kernel)
@[simp] theorem sne_take_out_now : ((("take_out" : Str)) = "now") = False := eq_false (by decide +kernel)
@[simp] theorem sne_take_out_row : ((("take_out" : Str)) = "row") = False := eq_false (by decide +kernel)
@[simp] theorem sne_take_out_logs : ((("take_out" : Str)) = "logs") = False := eq_false (by decide +kernel)
@[simp] theorem sne_take_out_names : ((("take_out" : Str)) = "names") = False := eq_false (by decide +kernel)
@[simp] theorem sne_take_out_water : ((("take_out" : Str)) = "water") = False := eq_false (by decide +kernel)
@[simp] theorem sne_take_out_passed : ((("take_out" : Str)) = "passed") = False := eq_false (by decide +kernel)
@[simp] theorem sne_take_out_done : ((("take_out" : Str)) = "done") = False := eq_false (by decide +kernel)
@[simp] theorem sne_take_out_crowns : ((("take_out" : Str)) = "crowns") = False := eq_false (by decide +kernel)
@[simp] theorem sne_swap_rows : ((("swap" : Str)) = "rows") = False := eq_false (by decide +kernel)
@[simp] theorem sne_swap_end : ((("swap" : Str)) = "end") = False := eq_false (by decide +kernel)
@[simp] theorem sne_swap_due : ((("swap" : Str)) = "due") = False := eq_false (by decide +kernel)
@[simp] theorem sne_swap_now : ((("swap" : Str)) = "now") = False := eq_false (by decide +kernel)
@[simp] theorem sne_swap_row : ((("swap" : Str)) = "row") = False := eq_false (by decide +kernel)
@[simp] theorem sne_swap_logs : ((("swap" : Str)) = "logs") = False := eq_false (by decide +kernel)
@[simp] theorem sne_swap_names : ((("swap" : Str)) = "names") = False := eq_false (by decide +kernel)
@[simp] theorem sne_swap_water : ((("swap" : Str)) = "water") = False := eq_false (by decide +kernel)
@[simp] theorem sne_swap_passed : ((("swap" : Str)) = "passed") = False := eq_false (by decide +kernel)
@[simp] theorem sne_swap_done : ((("swap" : Str)) = "done") = False := eq_false (by decide +kernel)
@[simp] theorem sne_swap_crowns : ((("swap" : Str)) = "crowns") = False := eq_false (by decide +kernel)
@[simp] theorem sne_asked_rows : ((("asked" : Str)) = "rows") = False := eq_false (by decide +kernel)
@[simp] theorem sne_asked_end : ((("asked" : Str)) = "end") = False := eq_false (by decide +kernel)
@[simp] theorem sne_asked_due : ((("asked" : Str)) = "due") = False := eq_false (by decide +kernel)
@[simp] theorem sne_asked_now : ((("asked" : Str)) = "now") = False := eq_false (by decide +kernel)
@[simp] theorem sne_asked_row : ((("asked" : Str)) = "row") = False := eq_false (by decide +kernel)
@[simp] theorem sne_asked_logs : ((("asked" : Str)) = "logs") = False := eq_false (by decide +kernel)
@[simp] theorem sne_asked_names : ((("asked" : Str)) = "names") = False := eq_false (by decide +kernel)
@[simp] theorem sne_asked_water : ((("asked" : Str)) = "water") = False := eq_false (by decide +kernel)
@[simp] theorem sne_asked_passed : ((("asked" : Str)) = "passed") = False := eq_false (by decide +kernel)
@[simp] theorem sne_asked_done : ((("asked" : Str)) = "done") = False := eq_false (by decide +kernel)
@[simp] theorem sne_asked_crowns : ((("asked" : Str)) = "crowns") = False := eq_false (by decide +kernel)
@[simp] theorem sne_known_rows : ((("known" : Str)) = "rows") = False := eq_false (by decide +kernel)
@[simp] theorem sne_known_end : ((("known" : Str)) = "end") = False := eq_false (by decide +kernel)
@[simp] theorem sne_known_due : ((("known" : Str)) = "due") = False := eq_false (by decide +kernel)
@[simp] theorem sne_known_now : ((("known" : Str)) = "now") = False := eq_false (by decide +kernel)
@[simp] theorem sne_known_row : ((("known" : Str)) = "row") = False := eq_false (by decide +kernel)
@[simp] theorem sne_known_logs : ((("known" : Str)) = "logs") = False := eq_false (by decide +kernel)
@[simp] theorem sne_known_names : ((("known" : Str)) = "names") = False := eq_false (by decide +kernel)
@[simp] theorem sne_known_water : ((("known" : Str)) = "water") = False := eq_false (by decide +kernel)
@[simp] theorem sne_known_passed : ((("known" : Str)) = "passed") = False := eq_false (by decide +kernel)
@[simp] theorem sne_known_done : ((("known" : Str)) = "done") = False := eq_false (by decide +kernel)
@[simp] theorem sne_known_crowns : ((("known" : Str)) = "crowns") = False := eq_false (by decide +kernel)
@[simp] theorem sne_join_rows : ((("join" : Str)) = "rows") = False := eq_false (by decide +kernel)
@[simp] theorem sne_join_end : ((("join" : Str)) = "end") = False := eq_false (by decide +kernel)
@[simp] theorem sne_join_due : ((("join" : Str)) = "due") = False := eq_false (by decide +kernel)
@[simp] theorem sne_join_now : ((("join" : Str)) = "now") = False := eq_false (by decide +kernel)
@[simp] theorem sne_join_row : ((("join" : Str)) = "row") = False := eq_false (by decide +kernel)
@[simp] theorem sne_join_logs : ((("join" : Str)) = "logs") = False := eq_false (by decide +kernel)
@[simp] theorem sne_join_names : ((("join" : Str)) = "names") = False := eq_false (by decide +kernel)
@[simp] theorem sne_join_water : ((("join" : Str)) = "water") = False := eq_false (by decide +kernel)
@[simp] theorem sne_join_passed : ((("join" : Str)) = "passed") = False := eq_false (by decide +kernel)
@[simp] theorem sne_join_done : ((("join" : Str)) = "done") = False := eq_false (by decide +kernel)
@[simp] theorem sne_join_crowns : ((("join" : Str)) = "crowns") = False := eq_false (by decide +kernel)
@[simp] theorem sne_about_rows : ((("about" : Str)) = "rows") = False := eq_false (by decide +kernel)
@[simp] theorem sne_about_end : ((("about" : Str)) = "end") = False := eq_false (by decide +kernel)
@[simp] theorem sne_about_due : ((("about" : Str)) = "due") = False := eq_false (by decide +kernel)
@[simp] theorem sne_about_now : ((("about" : Str)) = "now") = False := eq_false (by decide +kernel)
@[simp] theorem sne_about_row : ((("about" : Str)) = "row") = False := eq_false (by decide +kernel)
@[simp] theorem sne_about_logs : ((("about" : Str)) = "logs") = False := eq_false (by decide +kernel)
@[simp] theorem sne_about_names : ((("about" : Str)) = "names") = False := eq_false (by decide +kernel)
@[simp] theorem sne_about_water : ((("about" : Str)) = "water") = False := eq_false (by decide +kernel)
@[simp] theorem sne_about_passed : ((("about" : Str)) = "passed") = False := eq_false (by decide +kernel)
@[simp] theorem sne_about_done : ((("about" : Str)) = "done") = False := eq_false (by decide +kernel)
@[simp] theorem sne_about_crowns : ((("about" : Str)) = "crowns") = False := eq_false (by decide +kernel)
@[simp] theorem sne_check_rows : ((("check" : Str)) = "rows") = False := eq_false (by decide +kernel)
@[simp] theorem sne_check_end : ((("check" : Str)) = "end") = False := eq_false (by decide +kernel)
@[simp] theorem sne_check_due : ((("check" : Str)) = "due") = False := eq_false (by decide +kernel)
@[simp] theorem sne_check_now : ((("check" : Str)) = "now") = False := eq_false (by decide +kernel)
@[simp] theorem sne_check_row : ((("check" : Str)) = "row") = False := eq_false (by decide +kernel)
@[simp] theorem sne_check_logs : ((("check" : Str)) = "logs") = False := eq_false (by decide +kernel)
@[simp] theorem sne_check_names : ((("check" : Str)) = "names") = False := eq_false (by decide +kernel)
@[simp] theorem sne_check_water : ((("check" : Str)) = "water") = False := eq_false (by decide +kernel)
@[simp] theorem sne_check_passed : ((("check" : Str)) = "passed") = False := eq_false (by decide +kernel)
@[simp] theorem sne_check_done : ((("check" : Str)) = "done") = False := eq_false (by decide +kernel)
@[simp] theorem sne_check_crowns : ((("check" : Str)) = "crowns") = False := eq_false (by decide +kernel)
@[simp] theorem sne_go_step_rows : ((("go_step" : Str)) = "rows") = False := eq_false (by decide +kernel)
@[simp] theorem sne_go_step_end : ((("go_step" : Str)) = "end") = False := eq_false (by decide +kernel)
@[simp] theorem sne_go_step_due : ((("go_step" : Str)) = "due") = False := eq_false (by decide +kernel)
@[simp] theorem sne_go_step_now : ((("go_step" : Str)) = "now") = False := eq_false (by decide +kernel)
@[simp] theorem sne_go_step_row : ((("go_step" : Str)) = "row") = False := eq_false (by decide +kernel)
@[simp] theorem sne_go_step_logs : ((("go_step" : Str)) = "logs") = False := eq_false (by decide +kernel)
@[simp] theorem sne_go_step_names : ((("go_step" : Str)) = "names") = False := eq_false (by decide +kernel)
@[simp] theorem sne_go_step_water : ((("go_step" : Str)) = "water") = False := eq_false (by decide +kernel)
@[simp] theorem sne_go_step_passed : ((("go_step" : Str)) = "passed") = False := eq_false (by decide +kernel)
@[simp] theorem sne_go_step_done : ((("go_step" : Str)) = "done") = False := eq_false (by decide +kernel)
@[simp] theorem sne_go_step_crowns : ((("go_step" : Str)) = "crowns") = False := eq_false (by decide +kernel)
@[simp] theorem sne_go_to_rows : ((("go_to" : Str)) = "rows") = False := eq_false (by decide +kernel)
@[simp] theorem sne_go_to_end : ((("go_to" : Str)) = "end") = False := eq_false (by decide +kernel)
@[simp] theorem sne_go_to_due : ((("go_to" : Str)) = "due") = False := eq_false (by decide +kernel)
@[simp] theorem sne_go_to_now : ((("go_to" : Str)) = "now") = False := eq_false (by decide +kernel)
@[simp] theorem sne_go_to_row : ((("go_to" : Str)) = "row") = False := eq_false (by decide +kernel)
@[simp] theorem sne_go_to_logs : ((("go_to" : Str)) = "logs") = False := eq_false (by decide +kernel)
@[simp] theorem sne_go_to_names : ((("go_to" : Str)) = "names") = False := eq_false (by decide +kernel)
@[simp] theorem sne_go_to_water : ((("go_to" : Str)) = "water") = False := eq_false (by decide +kernel)
@[simp] theorem sne_go_to_passed : ((("go_to" : Str)) = "passed") = False := eq_false (by decide +kernel)
@[simp] theorem sne_go_to_done : ((("go_to" : Str)) = "done") = False := eq_false (by decide +kernel)
@[simp] theorem sne_go_to_crowns : ((("go_to" : Str)) = "crowns") = False := eq_false (by decide +kernel)
@[simp] theorem sne_foretold_rows : ((("foretold" : Str)) = "rows") = False := eq_false (by decide +kernel)
@[simp] theorem sne_foretold_end : ((("foretold" : Str)) = "end") = False := eq_false (by decide +kernel)
@[simp] theorem sne_foretold_due : ((("foretold" : Str)) = "due") = False := eq_false (by decide +kernel)
@[simp] theorem sne_foretold_now : ((("foretold" : Str)) = "now") = False := eq_false (by decide +kernel)
@[simp] theorem sne_foretold_row : ((("foretold" : Str)) = "row") = False := eq_false (by decide +kernel)
@[simp] theorem sne_foretold_logs : ((("foretold" : Str)) = "logs") = False := eq_false (by decide +kernel)
@[simp] theorem sne_foretold_names : ((("foretold" : Str)) = "names") = False := eq_false (by decide +kernel)
@[simp] theorem sne_foretold_water : ((("foretold" : Str)) = "water") = False := eq_false (by decide +kernel)
@[simp] theorem sne_foretold_passed : ((("foretold" : Str)) = "passed") = False := eq_false (by decide +kernel)
@[simp] theorem sne_foretold_done : ((("foretold" : Str)) = "done") = False := eq_false (by decide +kernel)
@[simp] theorem sne_foretold_crowns : ((("foretold" : Str)) = "crowns") = False := eq_false (by decide +kernel)
@[simp] theorem sne_clock_end : ((("clock" : Str)) = "end") = False := eq_false (by decide +kernel)
@[simp] theorem sne_clock_due : ((("clock" : Str)) = "due") = False := eq_false (by decide +kernel)
@[simp] theorem sne_clock_now : ((("clock" : Str)) = "now") = False := eq_false (by decide +kernel)
@[simp] theorem sne_clock_row : ((("clock" : Str)) = "row") = False := eq_false (by decide +kernel)
@[simp] theorem sne_clock_logs : ((("clock" : Str)) = "logs") = False := eq_false (by decide +kernel)
@[simp] theorem sne_clock_names : ((("clock" : Str)) = "names") = False := eq_false (by decide +kernel)
@[simp] theorem sne_clock_water : ((("clock" : Str)) = "water") = False := eq_false (by decide +kernel)
@[simp] theorem sne_clock_passed : ((("clock" : Str)) = "passed") = False := eq_false (by decide +kernel)
@[simp] theorem sne_clock_done : ((("clock" : Str)) = "done") = False := eq_false (by decide +kernel)
@[simp] theorem sne_clock_crowns : ((("clock" : Str)) = "crowns") = False := eq_false (by decide +kernel)
@[simp] theorem sne_order_rows : ((("order" : Str)) = "rows") = False := eq_false (by decide +kernel)
@[simp] theorem sne_order_end : ((("order" : Str)) = "end") = False := eq_false (by decide +kernel)
@[simp] theorem sne_order_due : ((("order" : Str)) = "due") = False := eq_false (by decide +kernel)
@[simp] theorem sne_order_now : ((("order" : Str)) = "now") = False := eq_false (by decide +kernel)
@[simp] theorem sne_order_row : ((("order" : Str)) = "row") = False := eq_false (by decide +kernel)
@[simp] theorem sne_order_logs : ((("order" : Str)) = "logs") = False := eq_false (by decide +kernel)
@[simp] theorem sne_order_names : ((("order" : Str)) = "names") = False := eq_false (by decide +kernel)
@[simp] theorem sne_order_water : ((("order" : Str)) = "water") = False := eq_false (by decide +kernel)
@[simp] theorem sne_order_passed : ((("order" : Str)) = "passed") = False := eq_false (by decide +kernel)
@[simp] theorem sne_order_done : ((("order" : Str)) = "done") = False := eq_false (by decide +kernel)
@[simp] theorem sne_order_crowns : ((("order" : Str)) = "crowns") = False := eq_false (by decide +kernel)
@[simp] theorem sne_bells_rows : ((("bells" : Str)) = "rows") = False := eq_false (by decide +kernel)
@[simp] theorem sne_bells_end : ((("bells" : Str)) = "end") = False := eq_false (by decide +kernel)
@[simp] theorem sne_bells_due : ((("bells" : Str)) = "due") = False := eq_false (by decide +kernel)
@[simp] theorem sne_bells_now : ((("bells" : Str)) = "now") = False := eq_false (by decide +kernel)
@[simp] theorem sne_bells_row : ((("bells" : Str)) = "row") = False := eq_false (by decide +kernel)
@[simp] theorem sne_bells_logs : ((("bells" : Str)) = "logs") = False := eq_false (by decide +kernel)
@[simp] theorem sne_bells_names : ((("bells" : Str)) = "names") = False := eq_false (by decide +kernel)
@[simp] theorem sne_bells_water : ((("bells" : Str)) = "water") = False := eq_false (by decide +kernel)
@[simp] theorem sne_bells_passed : ((("bells" : Str)) = "passed") = False := eq_false (by decide +kernel)
@[simp] theorem sne_bells_done : ((("bells" : Str)) = "done") = False := eq_false (by decide +kernel)
@[simp] theorem sne_bells_crowns : ((("bells" : Str)) = "crowns") = False := eq_false (by decide +kernel)
@[simp] theorem sne_rank_rows : ((("rank" : Str)) = "rows") = False := eq_false (by decide +kernel)
@[simp] theorem sne_rank_end : ((("rank" : Str)) = "end") = False := eq_false (by decide +kernel)
@[simp] theorem sne_rank_due : ((("rank" : Str)) = "due") = False := eq_false (by decide +kernel)
@[simp] theorem sne_rank_now : ((("rank" : Str)) = "now") = False := eq_false (by decide +kernel)
@[simp] theorem sne_rank_row : ((("rank" : Str)) = "row") = False := eq_false (by decide +kernel)
@[simp] theorem sne_rank_logs : ((("rank" : Str)) = "logs") = False := eq_false (by decide +kernel)
@[simp] theorem sne_rank_names : ((("rank" : Str)) = "names") = False := eq_false (by decide +kernel)
@[simp] theorem sne_rank_water : ((("rank" : Str)) = "water") = False := eq_false (by decide +kernel)
@[simp] theorem sne_rank_passed : ((("rank" : Str)) = "passed") = False := eq_false (by decide +kernel)
@[simp] theorem sne_rank_done : ((("rank" : Str)) = "done") = False := eq_false (by decide +kernel)
@[simp] theorem sne_rank_crowns : ((("rank" : Str)) = "crowns") = False := eq_false (by decide +kernel)
@[simp] theorem sne_name_at_rows : ((("name_at" : Str)) = "rows") = False := eq_false (by decide +kernel)
@[simp] theorem sne_name_at_end : ((("name_at" : Str)) = "end") = False := eq_false (by decide +kernel)
@[simp] theorem sne_name_at_due : ((("name_at" : Str)) = "due") = False := eq_false (by decide +kernel)
@[simp] theorem sne_name_at_now : ((("name_at" : Str)) = "now") = False := eq_false (by decide +kernel)
@[simp] theorem sne_name_at_row : ((("name_at" : Str)) = "row") = False := eq_false (by decide +kernel)
@[simp] theorem sne_name_at_logs : ((("name_at" : Str)) = "logs") = False := eq_false (by decide +kernel)
@[simp] theorem sne_name_at_names : ((("name_at" : Str)) = "names") = False := eq_false (by decide +kernel)
@[simp] theorem sne_name_at_water : ((("name_at" : Str)) = "water") = False := eq_false (by decide +kernel)
@[simp] theorem sne_name_at_passed : ((("name_at" : Str)) = "passed") = False := eq_false (by decide +kernel)
@[simp] theorem sne_name_at_done : ((("name_at" : Str)) = "done") = False := eq_false (by decide +kernel)
@[simp] theorem sne_name_at_crowns : ((("name_at" : Str)) = "crowns") = False := eq_false (by decide +kernel)
@[simp] theorem sne_meets_rows : ((("meets" : Str)) = "rows") = False := eq_false (by decide +kernel)
@[simp] theorem sne_meets_end : ((("meets" : Str)) = "end") = False := eq_false (by decide +kernel)
@[simp] theorem sne_meets_due : ((("meets" : Str)) = "due") = False := eq_false (by decide +kernel)
@[simp] theorem sne_meets_now : ((("meets" : Str)) = "now") = False := eq_false (by decide +kernel)
@[simp] theorem sne_meets_row : ((("meets" : Str)) = "row") = False := eq_false (by decide +kernel)
@[simp] theorem sne_meets_logs : ((("meets" : Str)) = "logs") = False := eq_false (by decide +kernel)
@[simp] theorem sne_meets_names : ((("meets" : Str)) = "names") = False := eq_false (by decide +kernel)
@[simp] theorem sne_meets_water : ((("meets" : Str)) = "water") = False := eq_false (by decide +kernel)
@[simp] theorem sne_meets_passed : ((("meets" : Str)) = "passed") = False := eq_false (by decide +kernel)
@[simp] theorem sne_meets_done : ((("meets" : Str)) = "done") = False := eq_false (by decide +kernel)
@[simp] theorem sne_meets_crowns : ((("meets" : Str)) = "crowns") = False := eq_false (by decide +kernel)
@[simp] theorem sne_closest_rows : ((("closest" : Str)) = "rows") = False := eq_false (by decide +kernel)
@[simp] theorem sne_closest_end : ((("closest" : Str)) = "end") = False := eq_false (by decide +kernel)
@[simp] theorem sne_closest_due : ((("closest" : Str)) = "due") = False := eq_false (by decide +kernel)
@[simp] theorem sne_closest_now : ((("closest" : Str)) = "now") = False := eq_false (by decide +kernel)
@[simp] theorem sne_closest_row : ((("closest" : Str)) = "row") = False := eq_false (by decide +kernel)
@[simp] theorem sne_closest_logs : ((("closest" : Str)) = "logs") = False := eq_false (by decide +kernel)
@[simp] theorem sne_closest_names : ((("closest" : Str)) = "names") = False := eq_false (by decide +kernel)
@[simp] theorem sne_closest_water : ((("closest" : Str)) = "water") = False := eq_false (by decide +kernel)
@[simp] theorem sne_closest_passed : ((("closest" : Str)) = "passed") = False := eq_false (by decide +kernel)
@[simp] theorem sne_closest_done : ((("closest" : Str)) = "done") = False := eq_false (by decide +kernel)
@[simp] theorem sne_closest_crowns : ((("closest" : Str)) = "crowns") = False := eq_false (by decide +kernel)
@[simp] theorem sne_count_from_rows : ((("count_from" : Str)) = "rows") = False := eq_false (by decide +kernel)
@[simp] theorem sne_count_from_end : ((("count_from" : Str)) = "end") = False := eq_false (by decide +kernel)
@[simp] theorem sne_count_from_due : ((("count_from" : Str)) = "due") = False := eq_false (by decide +kernel)
@[simp] theorem sne_count_from_now : ((("count_from" : Str)) = "now") = False := eq_false (by decide +kernel)
@[simp] theorem sne_count_from_row : ((("count_from" : Str)) = "row") = False := eq_false (by decide +kernel)
@[simp] theorem sne_count_from_logs : ((("count_from" : Str)) = "logs") = False := eq_false (by decide +kernel)
@[simp] theorem sne_count_from_names : ((("count_from" : Str)) = "names") = False := eq_false (by decide +kernel)
@[simp] theorem sne_count_from_water : ((("count_from" : Str)) = "water") = False := eq_false (by decide +kernel)
@[simp] theorem sne_count_from_passed : ((("count_from" : Str)) = "passed") = False := eq_false (by decide +kernel)
@[simp] theorem sne_count_from_done : ((("count_from" : Str)) = "done") = False := eq_false (by decide +kernel)
@[simp] theorem sne_count_from_crowns : ((("count_from" : Str)) = "crowns") = False := eq_false (by decide +kernel)
@[simp] theorem sne_history_rows : ((("history" : Str)) = "rows") = False := eq_false (by decide +kernel)
@[simp] theorem sne_history_end : ((("history" : Str)) = "end") = False := eq_false (by decide +kernel)
@[simp] theorem sne_history_due : ((("history" : Str)) = "due") = False := eq_false (by decide +kernel)
@[simp] theorem sne_history_now : ((("history" : Str)) = "now") = False := eq_false (by decide +kernel)
@[simp] theorem sne_history_row : ((("history" : Str)) = "row") = False := eq_false (by decide +kernel)
@[simp] theorem sne_history_logs : ((("history" : Str)) = "logs") = False := eq_false (by decide +kernel)
@[simp] theorem sne_history_names : ((("history" : Str)) = "names") = False := eq_false (by decide +kernel)
@[simp] theorem sne_history_water : ((("history" : Str)) = "water") = False := eq_false (by decide +kernel)
@[simp] theorem sne_history_passed : ((("history" : Str)) = "passed") = False := eq_false (by decide +kernel)
@[simp] theorem sne_history_done : ((("history" : Str)) = "done") = False := eq_false (by decide +kernel)
@[simp] theorem sne_history_crowns : ((("history" : Str)) = "crowns") = False := eq_false (by decide +kernel)
@[simp] theorem sne_place_at_rows : ((("place_at" : Str)) = "rows") = False := eq_false (by decide +kernel)
@[simp] theorem sne_place_at_end : ((("place_at" : Str)) = "end") = False := eq_false (by decide +kernel)
@[simp] theorem sne_place_at_due : ((("place_at" : Str)) = "due") = False := eq_false (by decide +kernel)
@[simp] theorem sne_place_at_now : ((("place_at" : Str)) = "now") = False := eq_false (by decide +kernel)
@[simp] theorem sne_place_at_row : ((("place_at" : Str)) = "row") = False := eq_false (by decide +kernel)
@[simp] theorem sne_place_at_logs : ((("place_at" : Str)) = "logs") = False := eq_false (by decide +kernel)
@[simp] theorem sne_place_at_names : ((("place_at" : Str)) = "names") = False := eq_false (by decide +kernel)
@[simp] theorem sne_place_at_water : ((("place_at" : Str)) = "water") = False := eq_false (by decide +kernel)
@[simp] theorem sne_place_at_passed : ((("place_at" : Str)) = "passed") = False := eq_false (by decide +kernel)
@[simp] theorem sne_place_at_done : ((("place_at" : Str)) = "done") = False := eq_false (by decide +kernel)
@[simp] theorem sne_place_at_crowns : ((("place_at" : Str)) = "crowns") = False := eq_false (by decide +kernel)
@[simp] theorem sne_order_at_rows : ((("order_at" : Str)) = "rows") = False := eq_false (by decide +kernel)
@[simp] theorem sne_order_at_end : ((("order_at" : Str)) = "end") = False := eq_false (by decide +kernel)
@[simp] theorem sne_order_at_due : ((("order_at" : Str)) = "due") = False := eq_false (by decide +kernel)
@[simp] theorem sne_order_at_now : ((("order_at" : Str)) = "now") = False := eq_false (by decide +kernel)
@[simp] theorem sne_order_at_row : ((("order_at" : Str)) = "row") = False := eq_false (by decide +kernel)
@[simp] theorem sne_order_at_logs : ((("order_at" : Str)) = "logs") = False := eq_false (by decide +kernel)
@[simp] theorem sne_order_at_names : ((("order_at" : Str)) = "names") = False := eq_false (by decide +kernel)
@[simp] theorem sne_order_at_water : ((("order_at" : Str)) = "water") = False := eq_false (by decide +kernel)
@[simp] theorem sne_order_at_passed : ((("order_at" : Str)) = "passed") = False := eq_false (by decide +kernel)
@[simp] theorem sne_order_at_done : ((("order_at" : Str)) = "done") = False := eq_false (by decide +kernel)
@[simp] theorem sne_order_at_crowns : ((("order_at" : Str)) = "crowns") = False := eq_false (by decide +kernel)
@[simp] theorem sne_foremost_rows : ((("foremost" : Str)) = "rows") = False := eq_false (by decide +kernel)
@[simp] theorem sne_foremost_end : ((("foremost" : Str)) = "end") = False := eq_false (by decide +kernel)
@[simp] theorem sne_foremost_due : ((("foremost" : Str)) = "due") = False := eq_false (by decide +kernel)
@[simp] theorem sne_foremost_now : ((("foremost" : Str)) = "now") = False := eq_false (by decide +kernel)
@[simp] theorem sne_foremost_row : ((("foremost" : Str)) = "row") = False := eq_false (by decide +kernel)
@[simp] theorem sne_foremost_logs : ((("foremost" : Str)) = "logs") = False := eq_false (by decide +kernel)
@[simp] theorem sne_foremost_names : ((("foremost" : Str)) = "names") = False := eq_false (by decide +kernel)
@[simp] theorem sne_foremost_water : ((("foremost" : Str)) = "water") = False := eq_false (by decide +kernel)
@[simp] theorem sne_foremost_passed : ((("foremost" : Str)) = "passed") = False := eq_false (by decide +kernel)
@[simp] theorem sne_foremost_done : ((("foremost" : Str)) = "done") = False := eq_false (by decide +kernel)
@[simp] theorem sne_foremost_crowns : ((("foremost" : Str)) = "crowns") = False := eq_false (by decide +kernel)
@[simp] theorem sne_note_rows : ((("note" : Str)) = "rows") = False := eq_false (by decide +kernel)
@[simp] theorem sne_note_end : ((("note" : Str)) = "end") = False := eq_false (by decide +kernel)
@[simp] theorem sne_note_due : ((("note" : Str)) = "due") = False := eq_false (by decide +kernel)
@[simp] theorem sne_note_now : ((("note" : Str)) = "now") = False := eq_false (by decide +kernel)
@[simp] theorem sne_note_row : ((("note" : Str)) = "row") = False := eq_false (by decide +kernel)
@[simp] theorem sne_note_logs : ((("note" : Str)) = "logs") = False := eq_false (by decide +kernel)
@[simp] theorem sne_note_names : ((("note" : Str)) = "names") = False := eq_false (by decide +kernel)
@[simp] theorem sne_note_water : ((("note" : Str)) = "water") = False := eq_false (by decide +kernel)
@[simp] theorem sne_note_passed : ((("note" : Str)) = "passed") = False := eq_false (by decide +kernel)
@[simp] theorem sne_note_done : ((("note" : Str)) = "done") = False := eq_false (by decide +kernel)
@[simp] theorem sne_note_crowns : ((("note" : Str)) = "crowns") = False := eq_false (by decide +kernel)
@[simp] theorem sne_leader_rows : ((("leader" : Str)) = "rows") = False := eq_false (by decide +kernel)
@[simp] theorem sne_leader_end : ((("leader" : Str)) = "end") = False := eq_false (by decide +kernel)
@[simp] theorem sne_leader_due : ((("leader" : Str)) = "due") = False := eq_false (by decide +kernel)
@[simp] theorem sne_leader_now : ((("leader" : Str)) = "now") = False := eq_false (by decide +kernel)
@[simp] theorem sne_leader_row : ((("leader" : Str)) = "row") = False := eq_false (by decide +kernel)
@[simp] theorem sne_leader_logs : ((("leader" : Str)) = "logs") = False := eq_false (by decide +kernel)
@[simp] theorem sne_leader_names : ((("leader" : Str)) = "names") = False := eq_false (by decide +kernel)
@[simp] theorem sne_leader_water : ((("leader" : Str)) = "water") = False := eq_false (by decide +kernel)
@[simp] theorem sne_leader_passed : ((("leader" : Str)) = "passed") = False := eq_false (by decide +kernel)
@[simp] theorem sne_leader_done : ((("leader" : Str)) = "done") = False := eq_false (by decide +kernel)
@[simp] theorem sne_leader_crowns : ((("leader" : Str)) = "crowns") = False := eq_false (by decide +kernel)
@[simp] theorem sne_story_rows : ((("story" : Str)) = "rows") = False := eq_false (by decide +kernel)
@[simp] theorem sne_story_end : ((("story" : Str)) = "end") = False := eq_false (by decide +kernel)
@[simp] theorem sne_story_due : ((("story" : Str)) = "due") = False := eq_false (by decide +kernel)
@[simp] theorem sne_story_now : ((("story" : Str)) = "now") = False := eq_false (by decide +kernel)
@[simp] theorem sne_story_row : ((("story" : Str)) = "row") = False := eq_false (by decide +kernel)
@[simp] theorem sne_story_logs : ((("story" : Str)) = "logs") = False := eq_false (by decide +kernel)
@[simp] theorem sne_story_names : ((("story" : Str)) = "names") = False := eq_false (by decide +kernel)
@[simp] theorem sne_story_water : ((("story" : Str)) = "water") = False := eq_false (by decide +kernel)
@[simp] theorem sne_story_passed : ((("story" : Str)) = "passed") = False := eq_false (by decide +kernel)
@[simp] theorem sne_story_done : ((("story" : Str)) = "done") = False := eq_false (by decide +kernel)
@[simp] theorem sne_story_crowns : ((("story" : Str)) = "crowns") = False := eq_false (by decide +kernel)
@[simp] theorem sne_who_rows : ((("who" : Str)) = "rows") = False := eq_false (by decide +kernel)
@[simp] theorem sne_who_end : ((("who" : Str)) = "end") = False := eq_false (by decide +kernel)
@[simp] theorem sne_who_due : ((("who" : Str)) = "due") = False := eq_false (by decide +kernel)
@[simp] theorem sne_who_now : ((("who" : Str)) = "now") = False := eq_false (by decide +kernel)
@[simp] theorem sne_who_row : ((("who" : Str)) = "row") = False := eq_false (by decide +kernel)
@[simp] theorem sne_who_logs : ((("who" : Str)) = "logs") = False := eq_false (by decide +kernel)
@[simp] theorem sne_who_names : ((("who" : Str)) = "names") = False := eq_false (by decide +kernel)
@[simp] theorem sne_who_water : ((("who" : Str)) = "water") = False := eq_false (by decide +kernel)
@[simp] theorem sne_who_passed : ((("who" : Str)) = "passed") = False := eq_false (by decide +kernel)
@[simp] theorem sne_who_done : ((("who" : Str)) = "done") = False := eq_false (by decide +kernel)
@[simp] theorem sne_who_crowns : ((("who" : Str)) = "crowns") = False := eq_false (by decide +kernel)
@[simp] theorem sne_note_all_rows : ((("note_all" : Str)) = "rows") = False := eq_false (by decide +kernel)
@[simp] theorem sne_note_all_end : ((("note_all" : Str)) = "end") = False := eq_false (by decide +kernel)
@[simp] theorem sne_note_all_due : ((("note_all" : Str)) = "due") = False := eq_false (by decide +kernel)
@[simp] theorem sne_note_all_now : ((("note_all" : Str)) = "now") = False := eq_false (by decide +kernel)
@[simp] theorem sne_note_all_row : ((("note_all" : Str)) = "row") = False := eq_false (by decide +kernel)
@[simp] theorem sne_note_all_logs : ((("note_all" : Str)) = "logs") = False := eq_false (by decide +kernel)
@[simp] theorem sne_note_all_names : ((("note_all" : Str)) = "names") = False := eq_false (by decide +kernel)
@[simp] theorem sne_note_all_water : ((("note_all" : Str)) = "water") = False := eq_false (by decide +kernel)
@[simp] theorem sne_note_all_passed : ((("note_all" : Str)) = "passed") = False := eq_false (by decide +kernel)
@[simp] theorem sne_note_all_done : ((("note_all" : Str)) = "done") = False := eq_false (by decide +kernel)
@[simp] theorem sne_note_all_crowns : ((("note_all" : Str)) = "crowns") = False := eq_false (by decide +kernel)
@[simp] theorem sne_go_rows : ((("go" : Str)) = "rows") = False := eq_false (by decide +kernel)
@[simp] theorem sne_go_end : ((("go" : Str)) = "end") = False := eq_false (by decide +kernel)
@[simp] theorem sne_go_due : ((("go" : Str)) = "due") = False := eq_false (by decide +kernel)
@[simp] theorem sne_go_now : ((("go" : Str)) = "now") = False := eq_false (by decide +kernel)
@[simp] theorem sne_go_row : ((("go" : Str)) = "row") = False := eq_false (by decide +kernel)
@[simp] theorem sne_go_logs : ((("go" : Str)) = "logs") = False := eq_false (by decide +kernel)
@[simp] theorem sne_go_names : ((("go" : Str)) = "names") = False := eq_false (by decide +kernel)
@[simp] theorem sne_go_water : ((("go" : Str)) = "water") = False := eq_false (by decide +kernel)
@[simp] theorem sne_go_passed : ((("go" : Str)) = "passed") = False := eq_false (by decide +kernel)
@[simp] theorem sne_go_done : ((("go" : Str)) = "done") = False := eq_false (by decide +kernel)
@[simp] theorem sne_go_crowns : ((("go" : Str)) = "crowns") = False := eq_false (by decide +kernel)
@[simp] theorem sne_watch_rows : ((("watch" : Str)) = "rows") = False := eq_false (by decide +kernel)
@[simp] theorem sne_watch_end : ((("watch" : Str)) = "end") = False := eq_false (by decide +kernel)
@[simp] theorem sne_watch_due : ((("watch" : Str)) = "due") = False := eq_false (by decide +kernel)
@[simp] theorem sne_watch_now : ((("watch" : Str)) = "now") = False := eq_false (by decide +kernel)
@[simp] theorem sne_watch_row : ((("watch" : Str)) = "row") = False := eq_false (by decide +kernel)
@[simp] theorem sne_watch_logs : ((("watch" : Str)) = "logs") = False := eq_false (by decide +kernel)
@[simp] theorem sne_watch_names : ((("watch" : Str)) = "names") = False := eq_false (by decide +kernel)
@[simp] theorem sne_watch_water : ((("watch" : Str)) = "water") = False := eq_false (by decide +kernel)
@[simp] theorem sne_watch_passed : ((("watch" : Str)) = "passed") = False := eq_false (by decide +kernel)
@[simp] theorem sne_watch_done : ((("watch" : Str)) = "done") = False := eq_false (by decide +kernel)
@[simp] theorem sne_watch_crowns : ((("watch" : Str)) = "crowns") = False := eq_false (by decide +kernel)
@[simp] theorem sne_unwatch_rows : ((("unwatch" : Str)) = "rows") = False := eq_false (by decide +kernel)
@[simp] theorem sne_unwatch_end : ((("unwatch" : Str)) = "end") = False := eq_false (by decide +kernel)
@[simp] theorem sne_unwatch_due : ((("unwatch" : Str)) = "due") = False := eq_false (by decide +kernel)
@[simp] theorem sne_unwatch_now : ((("unwatch" : Str)) = "now") = False := eq_false (by decide +kernel)
@[simp] theorem sne_unwatch_row : ((("unwatch" : Str)) = "row") = False := eq_false (by decide +kernel)
@[simp] theorem sne_unwatch_logs : ((("unwatch" : Str)) = "logs") = False := eq_false (by decide +kernel)
@[simp] theorem sne_unwatch_names : ((("unwatch" : Str)) = "names") = False := eq_false (by decide +kernel)
@[simp] theorem sne_unwatch_water : ((("unwatch" : Str)) = "water") = False := eq_false (by decide +kernel)
@[simp] theorem sne_unwatch_passed : ((("unwatch" : Str)) = "passed") = False := eq_false (by decide +kernel)
@[simp] theorem sne_unwatch_done : ((("unwatch" : Str)) = "done") = False := eq_false (by decide +kernel)
@[simp] theorem sne_unwatch_crowns : ((("unwatch" : Str)) = "crowns") = False := eq_false (by decide +kernel)
@[simp] theorem sne_marked_rows : ((("marked" : Str)) = "rows") = False := eq_false (by decide +kernel)
@[simp] theorem sne_marked_end : ((("marked" : Str)) = "end") = False := eq_false (by decide +kernel)
@[simp] theorem sne_marked_due : ((("marked" : Str)) = "due") = False := eq_false (by decide +kernel)
@[simp] theorem sne_marked_now : ((("marked" : Str)) = "now") = False := eq_false (by decide +kernel)
@[simp] theorem sne_marked_row : ((("marked" : Str)) = "row") = False := eq_false (by decide +kernel)
@[simp] theorem sne_marked_logs : ((("marked" : Str)) = "logs") = False := eq_false (by decide +kernel)
@[simp] theorem sne_marked_names : ((("marked" : Str)) = "names") = False := eq_false (by decide +kernel)
@[simp] theorem sne_marked_water : ((("marked" : Str)) = "water") = False := eq_false (by decide +kernel)
@[simp] theorem sne_marked_passed : ((("marked" : Str)) = "passed") = False := eq_false (by decide +kernel)
@[simp] theorem sne_marked_done : ((("marked" : Str)) = "done") = False := eq_false (by decide +kernel)
@[simp] theorem sne_marked_crowns : ((("marked" : Str)) = "crowns") = False := eq_false (by decide +kernel)
@[simp] theorem sne_do_rows : ((("do" : Str)) = "rows") = False := eq_false (by decide +kernel)
@[simp] theorem sne_do_end : ((("do" : Str)) = "end") = False := eq_false (by decide +kernel)
@[simp] theorem sne_do_due : ((("do" : Str)) = "due") = False := eq_false (by decide +kernel)
@[simp] theorem sne_do_now : ((("do" : Str)) = "now") = False := eq_false (by decide +kernel)
@[simp] theorem sne_do_row : ((("do" : Str)) = "row") = False := eq_false (by decide +kernel)
@[simp] theorem sne_do_logs : ((("do" : Str)) = "logs") = False := eq_false (by decide +kernel)
@[simp] theorem sne_do_names : ((("do" : Str)) = "names") = False := eq_false (by decide +kernel)
@[simp] theorem sne_do_water : ((("do" : Str)) = "water") = False := eq_false (by decide +kernel)
@[simp] theorem sne_do_passed : ((("do" : Str)) = "passed") = False := eq_false (by decide +kernel)
@[simp] theorem sne_do_done : ((("do" : Str)) = "done") = False := eq_false (by decide +kernel)
@[simp] theorem sne_do_crowns : ((("do" : Str)) = "crowns") = False := eq_false (by decide +kernel)
@[simp] theorem sne_do_all_rows : ((("do_all" : Str)) = "rows") = False := eq_false (by decide +kernel)
@[simp] theorem sne_do_all_end : ((("do_all" : Str)) = "end") = False := eq_false (by decide +kernel)
@[simp] theorem sne_do_all_due : ((("do_all" : Str)) = "due") = False := eq_false (by decide +kernel)
@[simp] theorem sne_do_all_now : ((("do_all" : Str)) = "now") = False := eq_false (by decide +kernel)
@[simp] theorem sne_do_all_row : ((("do_all" : Str)) = "row") = False := eq_false (by decide +kernel)
@[simp] theorem sne_do_all_logs : ((("do_all" : Str)) = "logs") = False := eq_false (by decide +kernel)
@[simp] theorem sne_do_all_names : ((("do_all" : Str)) = "names") = False := eq_false (by decide +kernel)
@[simp] theorem sne_do_all_water : ((("do_all" : Str)) = "water") = False := eq_false (by decide +kernel)
@[simp] theorem sne_do_all_passed : ((("do_all" : Str)) = "passed") = False := eq_false (by decide +kernel)
@[simp] theorem sne_do_all_done : ((("do_all" : Str)) = "done") = False := eq_false (by decide +kernel)
@[simp] theorem sne_do_all_crowns : ((("do_all" : Str)) = "crowns") = False := eq_false (by decide +kernel)
@[simp] theorem sne_lane_rows : ((("lane" : Str)) = "rows") = False := eq_false (by decide +kernel)
@[simp] theorem sne_lane_end : ((("lane" : Str)) = "end") = False := eq_false (by decide +kernel)
@[simp] theorem sne_lane_due : ((("lane" : Str)) = "due") = False := eq_false (by decide +kernel)
@[simp] theorem sne_lane_now : ((("lane" : Str)) = "now") = False := eq_false (by decide +kernel)
@[simp] theorem sne_lane_row : ((("lane" : Str)) = "row") = False := eq_false (by decide +kernel)
@[simp] theorem sne_lane_logs : ((("lane" : Str)) = "logs") = False := eq_false (by decide +kernel)
@[simp] theorem sne_lane_names : ((("lane" : Str)) = "names") = False := eq_false (by decide +kernel)
@[simp] theorem sne_lane_water : ((("lane" : Str)) = "water") = False := eq_false (by decide +kernel)
@[simp] theorem sne_lane_passed : ((("lane" : Str)) = "passed") = False := eq_false (by decide +kernel)
@[simp] theorem sne_lane_done : ((("lane" : Str)) = "done") = False := eq_false (by decide +kernel)
@[simp] theorem sne_lane_crowns : ((("lane" : Str)) = "crowns") = False := eq_false (by decide +kernel)
@[simp] theorem sne_book_end : ((("book" : Str)) = "end") = False := eq_false (by decide +kernel)
@[simp] theorem sne_book_due : ((("book" : Str)) = "due") = False := eq_false (by decide +kernel)
@[simp] theorem sne_book_now : ((("book" : Str)) = "now") = False := eq_false (by decide +kernel)
@[simp] theorem sne_book_row : ((("book" : Str)) = "row") = False := eq_false (by decide +kernel)
@[simp] theorem sne_book_logs : ((("book" : Str)) = "logs") = False := eq_false (by decide +kernel)
@[simp] theorem sne_book_names : ((("book" : Str)) = "names") = False := eq_false (by decide +kernel)
@[simp] theorem sne_book_water : ((("book" : Str)) = "water") = False := eq_false (by decide +kernel)
@[simp] theorem sne_book_passed : ((("book" : Str)) = "passed") = False := eq_false (by decide +kernel)
@[simp] theorem sne_book_done : ((("book" : Str)) = "done") = False := eq_false (by decide +kernel)
@[simp] theorem sne_book_crowns : ((("book" : Str)) = "crowns") = False := eq_false (by decide +kernel)
@[simp] theorem sne_journal_end : ((("journal" : Str)) = "end") = False := eq_false (by decide +kernel)
@[simp] theorem sne_journal_due : ((("journal" : Str)) = "due") = False := eq_false (by decide +kernel)
@[simp] theorem sne_journal_now : ((("journal" : Str)) = "now") = False := eq_false (by decide +kernel)
@[simp] theorem sne_journal_row : ((("journal" : Str)) = "row") = False := eq_false (by decide +kernel)
@[simp] theorem sne_journal_logs : ((("journal" : Str)) = "logs") = False := eq_false (by decide +kernel)
@[simp] theorem sne_journal_names : ((("journal" : Str)) = "names") = False := eq_false (by decide +kernel)
@[simp] theorem sne_journal_water : ((("journal" : Str)) = "water") = False := eq_false (by decide +kernel)
@[simp] theorem sne_journal_passed : ((("journal" : Str)) = "passed") = False := eq_false (by decide +kernel)
@[simp] theorem sne_journal_done : ((("journal" : Str)) = "done") = False := eq_false (by decide +kernel)
@[simp] theorem sne_journal_crowns : ((("journal" : Str)) = "crowns") = False := eq_false (by decide +kernel)
@[simp] theorem sne_led_by_rows : ((("led_by" : Str)) = "rows") = False := eq_false (by decide +kernel)
@[simp] theorem sne_led_by_end : ((("led_by" : Str)) = "end") = False := eq_false (by decide +kernel)
@[simp] theorem sne_led_by_due : ((("led_by" : Str)) = "due") = False := eq_false (by decide +kernel)
@[simp] theorem sne_led_by_now : ((("led_by" : Str)) = "now") = False := eq_false (by decide +kernel)
@[simp] theorem sne_led_by_row : ((("led_by" : Str)) = "row") = False := eq_false (by decide +kernel)
@[simp] theorem sne_led_by_logs : ((("led_by" : Str)) = "logs") = False := eq_false (by decide +kernel)
@[simp] theorem sne_led_by_names : ((("led_by" : Str)) = "names") = False := eq_false (by decide +kernel)
@[simp] theorem sne_led_by_water : ((("led_by" : Str)) = "water") = False := eq_false (by decide +kernel)
@[simp] theorem sne_led_by_passed : ((("led_by" : Str)) = "passed") = False := eq_false (by decide +kernel)
@[simp] theorem sne_led_by_done : ((("led_by" : Str)) = "done") = False := eq_false (by decide +kernel)
@[simp] theorem sne_led_by_crowns : ((("led_by" : Str)) = "crowns") = False := eq_false (by decide +kernel)
@[simp] theorem sne_tally_rows : ((("tally" : Str)) = "rows") = False := eq_false (by decide +kernel)
@[simp] theorem sne_tally_end : ((("tally" : Str)) = "end") = False := eq_false (by decide +kernel)
@[simp] theorem sne_tally_due : ((("tally" : Str)) = "due") = False := eq_false (by decide +kernel)
@[simp] theorem sne_tally_now : ((("tally" : Str)) = "now") = False := eq_false (by decide +kernel)
@[simp] theorem sne_tally_row : ((("tally" : Str)) = "row") = False := eq_false (by decide +kernel)
@[simp] theorem sne_tally_logs : ((("tally" : Str)) = "logs") = False := eq_false (by decide +kernel)
@[simp] theorem sne_tally_names : ((("tally" : Str)) = "names") = False := eq_false (by decide +kernel)
@[simp] theorem sne_tally_water : ((("tally" : Str)) = "water") = False := eq_false (by decide +kernel)
@[simp] theorem sne_tally_passed : ((("tally" : Str)) = "passed") = False := eq_false (by decide +kernel)
@[simp] theorem sne_tally_done : ((("tally" : Str)) = "done") = False := eq_false (by decide +kernel)
@[simp] theorem sne_tally_crowns : ((("tally" : Str)) = "crowns") = False := eq_false (by decide +kernel)
@[simp] theorem sne_goings_rows : ((("goings" : Str)) = "rows") = False := eq_false (by decide +kernel)
@[simp] theorem sne_goings_end : ((("goings" : Str)) = "end") = False := eq_false (by decide +kernel)
@[simp] theorem sne_goings_due : ((("goings" : Str)) = "due") = False := eq_false (by decide +kernel)
@[simp] theorem sne_goings_now : ((("goings" : Str)) = "now") = False := eq_false (by decide +kernel)
@[simp] theorem sne_goings_row : ((("goings" : Str)) = "row") = False := eq_false (by decide +kernel)
@[simp] theorem sne_goings_logs : ((("goings" : Str)) = "logs") = False := eq_false (by decide +kernel)
@[simp] theorem sne_goings_names : ((("goings" : Str)) = "names") = False := eq_false (by decide +kernel)
@[simp] theorem sne_goings_water : ((("goings" : Str)) = "water") = False := eq_false (by decide +kernel)
@[simp] theorem sne_goings_passed : ((("goings" : Str)) = "passed") = False := eq_false (by decide +kernel)
@[simp] theorem sne_goings_done : ((("goings" : Str)) = "done") = False := eq_false (by decide +kernel)
@[simp] theorem sne_goings_crowns : ((("goings" : Str)) = "crowns") = False := eq_false (by decide +kernel)

theorem seqS_nx {s1 s2 : FS} {ρ ρ1 : En} (h : s1 ρ = some (.nx ρ1)) : seqS s1 s2 ρ = s2 ρ1 := by rw [ev_seqS, h]
def endF (mk : List Bool) : Option Out → Option Rt
  | some (.rt x ρ) => (finP mk ρ).map (.ok x)
  | some (.nx ρ) => (finP mk ρ).map (.ok (.da .none))
  | some (.ex c ρ) => (finP mk ρ).map (.ex c)
  | _ => none
@[simp] theorem endF_rt (mk : List Bool) (x : Rs) (ρ : En) : endF mk (some (.rt x ρ)) = (finP mk ρ).map (.ok x) := rfl
@[simp] theorem endF_nx (mk : List Bool) (ρ : En) : endF mk (some (.nx ρ)) = (finP mk ρ).map (.ok (.da .none)) := rfl
@[simp] theorem endF_ex (mk : List Bool) (c : Str) (ρ : En) : endF mk (some (.ex c ρ)) = (finP mk ρ).map (.ex c) := rfl
theorem bodyF_of {ar n : Nat} {mk : List Bool} {s : FS} {as : List Rs} {ρ0 : En} (h0 : startE mk as ++ List.replicate (n - as.length) .un = ρ0) (hl : as.length = ar) : bodyF ar mk n s as = endF mk (s ρ0) := by
  rw [ev_bodyF, if_pos hl, h0]
  unfold endF
  cases s ρ0 with
  | none => rfl
  | some o => cases o <;> rfl
theorem atI_last {α : Type} (xs : List α) : atI xs (-1) = xs.getLast? := by
  unfold atI ixN
  rw [if_neg (by decide)]
  cases xs with
  | nil => rfl
  | cons x xs =>
    rw [if_pos (by simp; omega)]
    rw [List.getLast?_eq_getElem?]
    show (x :: xs)[((-1 : Int) + ((x :: xs).length : Nat)).toNat]? = _
    congr 1
    simp only [List.length_cons]
    omega
theorem bodyF_go {ar n : Nat} {mk : List Bool} {s : FS} {as : List Rs} {ρ0 : En} {R : Option Rt} (h0 : startE mk as ++ List.replicate (n - as.length) .un = ρ0) (hl : as.length = ar) (k : endF mk (s ρ0) = R) : bodyF ar mk n s as = R := (bodyF_of h0 hl).trans k
@[simp] theorem gz {α : Type} (a : α) (l : List α) : (a :: l)[0]? = some a := rfl
@[simp] theorem gzE (a : Sv) (l : En) : (show En from (a :: l))[0]? = some a := rfl
theorem decT {p : Prop} [Decidable p] (h : p) : decide p = true := decide_eq_true h
theorem decF {p : Prop} [Decidable p] (h : ¬ p) : decide p = false := decide_eq_false h
theorem seqE {s1 s2 : FS} {ρ ρ1 : En} {mk : List Bool} {R : Option Rt} (h : s1 ρ = some (.nx ρ1)) (k : endF mk (s2 ρ1) = R) : endF mk (seqS s1 s2 ρ) = R := by rw [ev_seqS, h]; exact k
theorem seqO {s1 s2 : FS} {ρ ρ1 : En} {R : Option Out} (h : s1 ρ = some (.nx ρ1)) (k : s2 ρ1 = R) : seqS s1 s2 ρ = R := by rw [ev_seqS, h]; exact k
theorem klO_of {s : FS} {ρ : En} {ks : List Nat} {o o' : Out} (h : s ρ = some o) (k : klO ks o = o') : klS ks s ρ = some o' := by rw [ev_klS, h, ← k]; rfl
theorem seqRt {s1 s2 : FS} {ρ ρ1 : En} {x : Rs} {mk : List Bool} {R : Option Rt} (h : s1 ρ = some (.rt x ρ1)) (k : (finP mk ρ1).map (Rt.ok x) = R) : endF mk (seqS s1 s2 ρ) = R := by rw [ev_seqS, h]; exact k
theorem klRt {s : FS} {ρ ρ1 : En} {x : Rs} {ks : List Nat} (h : s ρ = some (.rt x ρ1)) : klS ks s ρ = some (.rt x ρ1) := by rw [ev_klS, h]; rfl
theorem ifT {te : En → Option (Bool × En)} {s1 s2 : FS} {ρ ρ1 : En} {o : Option Out} (h : te ρ = some (true, ρ1)) (k : s1 ρ1 = o) : ifS te s1 s2 ρ = o := by rw [ev_ifS, h]; exact k
theorem ifF {te : En → Option (Bool × En)} {s1 s2 : FS} {ρ ρ1 : En} {o : Option Out} (h : te ρ = some (false, ρ1)) (k : s2 ρ1 = o) : ifS te s1 s2 ρ = o := by rw [ev_ifS, h]; exact k
theorem klN {s : FS} {ρ ρ1 ρ2 : En} {ks : List Nat} (h : s ρ = some (.nx ρ1)) (k : kil ks ρ1 = ρ2) : klS ks s ρ = some (.nx ρ2) := klO_of h (by rw [← k]; rfl)
@[simp] theorem ev_upSg (ρ : En) (i : Nat) (π : List Pe) (x : Rs) : upS ρ i π x = (match ρ[i]? with
  | some (.ow r) => (clA (ρ.set i (.ow (setP r π .un)))).set i (.ow (setP r π x))
  | _ => ρ) := rfl
@[simp] theorem ev_clA (ρ : En) : clA ρ = ρ.map (keepAl ρ) := rfl
@[simp] theorem ev_keepO (ρ : En) (r : Rs) : keepAl ρ (.ow r) = .ow r := rfl
@[simp] theorem ev_keepB (ρ : En) (r : Rs) : keepAl ρ (.bo r) = .bo r := rfl
@[simp] theorem ev_keepU (ρ : En) : keepAl ρ .un = .un := rfl
@[simp] theorem ev_holeE (ρ : En) (p : Nat × List Pe) : holeE ρ p = clA (ρ.set p.1 (.ow (match ρ[p.1]? with
  | some (.ow r) => setP r p.2 .un
  | _ => .un))) := rfl
@[simp] theorem ev_getPf' (c : Str) (fs : List (Str × Rs)) (n : Str) (π : List Pe) : getP (.ins c fs) (.f n :: π) = (match fs.lookup n with
  | some r => getP r π
  | none => none) := by rw [getP] <;> rfl
@[simp] theorem ev_setPf' (c : Str) (fs : List (Str × Rs)) (n : Str) (π : List Pe) (y : Rs) : setP (.ins c fs) (.f n :: π) y = (match fs.lookup n with
  | some x => .ins c (putR n (setP x π y) fs)
  | none => .ins c fs) := by rw [setP] <;> rfl
@[simp] theorem ev_getPk (l : Nat) (ks : List (Key × Rs)) (k : Key) (π : List Pe) : getP (.dct l ks) (.k k :: π) = (match valR k ks with
  | some r => getP r π
  | none => none) := by rw [getP] <;> rfl
@[simp] theorem ev_setPk (l : Nat) (ks : List (Key × Rs)) (k : Key) (π : List Pe) (y : Rs) : setP (.dct l ks) (.k k :: π) y = (match valR k ks with
  | some x => .dct l (setR k (setP x π y) ks)
  | none => .dct l ks) := by rw [setP] <;> rfl
@[simp] theorem ev_getP0' (r : Rs) : getP r [] = some r := by cases r <;> rfl
@[simp] theorem ev_setP0' (r x : Rs) : setP r [] x = x := by cases r <;> rfl
@[simp] theorem ev_putR0 (f : Str) (x : Rs) : putR f x [] = [(f, x)] := rfl
@[simp] theorem ev_putR1 (f : Str) (x : Rs) (g : Str) (y : Rs) (r : List (Str × Rs)) : putR f x ((g, y) :: r) = if g = f then (g, x) :: r else (g, y) :: putR f x r := rfl
@[simp] theorem ev_look0 {α : Type} (f : Str) : List.lookup f ([] : List (Str × α)) = none := rfl
@[simp] theorem ev_look1 {α : Type} (f g : Str) (y : α) (r : List (Str × α)) : List.lookup f ((g, y) :: r) = if f = g then some y else r.lookup f := by
  rw [List.lookup_cons, strBeq]; by_cases h : f = g <;> simp [h]
@[simp] theorem ev_isC (cn m c : Str) (fs : List (Str × Rs)) : isC cn m (.ins c fs) = (decide (c = cn) && (fs.lookup m).isNone) := rfl
@[simp] theorem ev_atR (cn f c : Str) (fs : List (Str × Rs)) : atR cn f (.ins c fs) = if c = cn then fs.lookup f else none := rfl
end Sm

set_option exponentiation.threshold 20000
/-! What the defs of the program answer: fractions, legs. -/
namespace Sm
open PySem L2 Cg
/-! ### gcd -/
theorem shared_loop : ∀ (n : Nat) (a b : Nat), b ≤ n → whileS (cm2 neR (varC 1) (vD (cstC (.int 0)))) w_shared_0 [.ow (.da (.int (a : Int))), .ow (.da (.int (b : Int)))] = some (.nx [.ow (.da (.int (Nat.gcd a b : Int))), .ow (.da (.int 0))])
  | n, a, 0, _ => by
    refine (whileS_false ?_).trans (by simp)
    simp
  | 0, a, b + 1, h => absurd h (by omega)
  | n + 1, a, b + 1, h => by
    have hlt : a % (b + 1) < b + 1 := Nat.mod_lt _ (by omega)
    have ih := shared_loop n (b + 1) (a % (b + 1)) (by omega)
    rw [show Nat.gcd (b + 1) (a % (b + 1)) = Nat.gcd a (b + 1) by rw [Nat.gcd_comm a (b + 1), Nat.gcd_rec (b + 1) a, Nat.gcd_comm]] at ih
    refine whileS_true ?_ ?_ ih
    · simp; omega
    · simp [w_shared_0, ev_modI (i := (a : Int)) (j := (b : Int) + 1) (by omega)]
theorem f_shared_eq (a b : Int) : f_shared [.da (.int a), .da (.int b)] = some (.ok (.da (.int (Int.gcd a b))) []) := by
  simp [f_shared, b_shared, shared_loop b.natAbs a.natAbs b.natAbs (Nat.le_refl _), Int.gcd]

theorem frac_cases {a b : Int} (hb : b ≠ 0) (hs : b.natAbs < 2 ^ 8000) : f_fraction [.da (.int a), .da (.int b)] = some (.ok (.da (qD ((a : Rat) / (b : Rat)))) []) := by
  by_cases h : b < 0
  · have g : (-b) ≠ 0 := by omega
    have hs' : (-b).natAbs < 2 ^ 8000 := by rwa [Int.natAbs_neg]
    have h1 : CDivW (-a) (Int.gcd (-a) (-b) : Int) := cdiv_of (gcd_pos g) (gcd_lt g hs') (Nat.le_refl _)
    have h2 : CDivW (-b) (Int.gcd (-a) (-b) : Int) := cdiv_of (gcd_pos g) (gcd_lt g hs') (Nat.le_refl _)
    have e := qD_frac_neg (a := a) h
    simp only [Int.gcd_neg, Int.neg_gcd] at h1 h2 e
    simp [f_fraction, b_fraction, hb, h, f_shared_eq, ev_divI h1, ev_divI h2, e]
  · have h1 : CDivW a (Int.gcd a b : Int) := cdiv_of (gcd_pos hb) (gcd_lt hb hs) (Nat.le_refl _)
    have h2 : CDivW b (Int.gcd a b : Int) := cdiv_of (gcd_pos hb) (gcd_lt hb hs) (Nat.le_refl _)
    simp [f_fraction, b_fraction, hb, h, f_shared_eq, ev_divI h1, ev_divI h2, qD_low (show 0 < b by omega)]
theorem f_plus_eq {p q : Rat} {n m : Nat} (hp : Sz n p) (hq : Sz m q) (hs : n + m ≤ 8000) : f_plus [.da (qD p), .da (qD q)] = some (.ok (.da (qD (p + q))) []) := by
  have h := frac_cases (a := p.num * q.den + q.num * p.den) (b := p.den * q.den) (Int.mul_ne_zero (by have := den_pos p; omega) (by have := den_pos q; omega)) (nlt_mono (nlt_mul hp.den hq.den) hs)
  rw [← rat_add] at h
  simp [f_plus, b_plus, ev_mulI (cmul_of hp.num hq.den (by omega)), ev_mulI (cmul_of hq.num hp.den (by omega)), ev_mulI (cmul_of hp.den hq.den (by omega)), h]
theorem f_minus_eq {p q : Rat} {n m : Nat} (hp : Sz n p) (hq : Sz m q) (hs : n + m ≤ 8000) : f_minus [.da (qD p), .da (qD q)] = some (.ok (.da (qD (p - q))) []) := by
  have h := frac_cases (a := p.num * q.den - q.num * p.den) (b := p.den * q.den) (Int.mul_ne_zero (by have := den_pos p; omega) (by have := den_pos q; omega)) (nlt_mono (nlt_mul hp.den hq.den) hs)
  rw [← rat_sub] at h
  simp [f_minus, b_minus, ev_mulI (cmul_of hp.num hq.den (by omega)), ev_mulI (cmul_of hq.num hp.den (by omega)), ev_mulI (cmul_of hp.den hq.den (by omega)), h]
theorem f_times_eq {p : Rat} {k : Int} {n m : Nat} (hp : Sz n p) (hk : k.natAbs < 2 ^ m) (hs : n + m ≤ 8000) : f_times [.da (qD p), .da (.int k)] = some (.ok (.da (qD (p * k))) []) := by
  have h := frac_cases (a := p.num * k) (b := p.den) (by have := den_pos p; omega) (nlt_mono hp.den (by omega))
  rw [← rat_muli] at h
  simp [f_times, b_times, ev_mulI (cmul_of hp.num hk (by omega)), h]
end Sm

set_option exponentiation.threshold 20000
namespace Sm
open PySem L2 Cg
/-! ### legs -/
def legD (m p : Rat) (v : Int) : PyData := .tuple [qD m, qD p, .int v]
@[simp] theorem ev_l0 (m p : Rat) (v : Int) : subR (.da (legD m p v)) (.da (.int 0)) = some (.da (qD m)) := rfl
@[simp] theorem ev_l1 (m p : Rat) (v : Int) : subR (.da (legD m p v)) (.da (.int 1)) = some (.da (qD p)) := rfl
@[simp] theorem ev_l2 (m p : Rat) (v : Int) : subR (.da (legD m p v)) (.da (.int 2)) = some (.da (.int v)) := rfl
@[simp] theorem ev_isNl (m p : Rat) (v : Int) : isN (legD m p v) = false := rfl
theorem eqv_legD (m p : Rat) (v : Int) (m' p' : Rat) (v' : Int) : PyData.eqv (legD m p v) (legD m' p' v') = (decide (m = m') && (decide (p = p') && decide (v = v'))) := by
  have e : PyData.eqv (legD m p v) (legD m' p' v') = (PyData.eqv (qD m) (qD m') && (PyData.eqv (qD p) (qD p') && (v == v'))) := by
    simp only [legD, PyData.eqv, PyData.eqvAll, Bool.and_true]
  rw [e, eqv_qD', eqv_qD', Bool.beq_eq_decide_eq]
@[simp] theorem ev_eqLeg (m p : Rat) (v : Int) (m' p' : Rat) (v' : Int) : eqR (.da (legD m p v)) (.da (legD m' p' v')) = some (decide (m = m') && (decide (p = p') && decide (v = v'))) := by
  show (if (true && true) = true then some (PyData.eqv (legD m p v) (legD m' p' v')) else none) = _
  rw [if_pos (by rfl), eqv_legD]
def onLeg (m0 p0 : Rat) (v : Int) (m : Rat) : Rat := p0 + (m - m0) * v
theorem f_place {a b c d e f v : Rat} (hb : b ≠ 0) (hd : d ≠ 0) (hf : f ≠ 0) : a / b + (c / d - e / f) * v = (a * (d * f) + v * (c * f - e * d) * b) / (b * (d * f)) := by grind
theorem rat_place (m0 p0 : Rat) (v : Int) (m : Rat) : onLeg m0 p0 v m = ((p0.num * (m.den * m0.den) + v * (m.num * m0.den - m0.num * m.den) * p0.den : Int) : Rat) / ((p0.den * (m.den * m0.den) : Int) : Rat) := by
  unfold onLeg
  conv => lhs; rw [rat_eq p0, rat_eq m, rat_eq m0]
  simp only [Rat.intCast_add, Rat.intCast_mul, Rat.intCast_sub]
  exact f_place (den_ne p0) (den_ne m) (den_ne m0)
theorem sz_onLeg {n k l j : Nat} {m0 p0 m : Rat} {v : Int} (h1 : Sz n m0) (h2 : Sz k p0) (h3 : v.natAbs < 2 ^ l) (h4 : Sz j m) : Sz (k + (j + n + 1 + l) + 1) (onLeg m0 p0 v m) :=
  h2.add ((h4.sub h1).muli h3)
theorem f_place_on_eq {a b c d : Nat} {m0 p0 m : Rat} {v : Int} (h1 : Sz a m0) (h2 : Sz b p0) (h3 : v.natAbs < 2 ^ c) (h4 : Sz d m) (hs : b + (d + a + 1 + c) ≤ 8000) : f_place_on [.da (legD m0 p0 v), .da (qD m)] = some (.ok (.da (qD (onLeg m0 p0 v m))) []) := by
  have e1 := f_minus_eq h4 h1 (by omega)
  have sb := h4.sub h1
  have e2 := f_times_eq sb h3 (by omega)
  have e3 := f_plus_eq h2 (sb.muli h3) (by omega)
  simp [f_place_on, b_place_on, e1, e2, e3, onLeg]
/-! ### the laws' own fractions -/
theorem low_loop (s0 s1 : Rs) : ∀ (n : Nat) (a b : Nat), b ≤ n → whileS (cm2 neR (varC 3) (vD (cstC (.int 0)))) w_l_low_0 [.bo s0, .bo s1, .ow (.da (.int (a : Int))), .ow (.da (.int (b : Int)))] = some (.nx [.bo s0, .bo s1, .ow (.da (.int (Nat.gcd a b : Int))), .ow (.da (.int 0))])
  | n, a, 0, _ => by
    refine (whileS_false ?_).trans (by simp)
    simp
  | 0, a, b + 1, h => absurd h (by omega)
  | n + 1, a, b + 1, h => by
    have hlt : a % (b + 1) < b + 1 := Nat.mod_lt _ (by omega)
    have ih := low_loop s0 s1 n (b + 1) (a % (b + 1)) (by omega)
    rw [show Nat.gcd (b + 1) (a % (b + 1)) = Nat.gcd a (b + 1) by rw [Nat.gcd_comm a (b + 1), Nat.gcd_rec (b + 1) a, Nat.gcd_comm]] at ih
    refine whileS_true ?_ ?_ ih
    · simp; omega
    · simp [w_l_low_0, ev_modI (i := (a : Int)) (j := (b : Int) + 1) (by omega)]
theorem f_low_eq {a b : Int} (hb : 0 < b) (hs : b.natAbs < 2 ^ 8000) : f_l_low [.da (.int a), .da (.int b)] = some (.ok (.da (qD ((a : Rat) / (b : Rat)))) []) := by
  have h1 : CDivW a (Int.gcd a b : Int) := cdiv_of (gcd_pos (by omega)) (gcd_lt (by omega) hs) (Nat.le_refl _)
  have h2 : CDivW b (Int.gcd a b : Int) := cdiv_of (gcd_pos (by omega)) (gcd_lt (by omega) hs) (Nat.le_refl _)
  have hl := low_loop (.da (.int a)) (.da (.int b)) b.natAbs a.natAbs b.natAbs (Nat.le_refl _)
  rw [show ((b.natAbs : Nat) : Int) = b by omega] at hl
  have e : Nat.gcd a.natAbs b.natAbs = Int.gcd a b := rfl
  rw [e] at hl
  simp [f_l_low, b_l_low, hl, ev_divI h1, ev_divI h2, qD_low hb]
theorem f_at_eq {a b c d : Nat} {m0 p0 m : Rat} {v : Int} (h1 : Sz a m0) (h2 : Sz b p0) (h3 : v.natAbs < 2 ^ c) (h4 : Sz d m) (hs : b + (d + a + 1 + c) ≤ 8000) : f_l_at [.da (legD m0 p0 v), .da (qD m)] = some (.ok (.da (qD (onLeg m0 p0 v m))) []) := by
  have pm : (0 : Int) < m.den * m0.den := Int.mul_pos (den_pos _) (den_pos _)
  have e := f_low_eq (a := p0.num * (m.den * m0.den) + v * (m.num * m0.den - m0.num * m.den) * p0.den) (b := p0.den * (m.den * m0.den)) (Int.mul_pos (den_pos _) pm) (nlt_mono (nlt_mul h2.den (nlt_mul h4.den h1.den)) (by omega))
  rw [← rat_place] at e
  have c1 := cmul_of h4.num h1.den (by omega)
  have c2 := cmul_of h1.num h4.den (by omega)
  have c3 := cmul_of h3 (nlt_subm (nlt_mul h4.num h1.den) (nlt_mul h1.num h4.den)) (by omega)
  have c4 := cmul_of h4.den h1.den (by omega)
  have c5 := cmul_of h2.num (nlt_mul h4.den h1.den) (by omega)
  have c6 := cmul_of (nlt_mul h3 (nlt_subm (nlt_mul h4.num h1.den) (nlt_mul h1.num h4.den))) h2.den (by omega)
  have c7 := cmul_of h2.den (nlt_mul h4.den h1.den) (by omega)
  simp [f_l_at, b_l_at, ev_mulI c1, ev_mulI c2, ev_mulI c3, ev_mulI c4, ev_mulI c5, ev_mulI c6, ev_mulI c7, e]
/-! ### judging what is found -/
@[simp] theorem ev_isiI (i : Int) : isiR "int" (.da (.int i)) = some (.da (.bool true)) := by simp [isiR, tynR, k_int_int]
@[simp] theorem ev_isiIb (i : Int) : isiR "bool" (.da (.int i)) = some (.da (.bool false)) := by simp [isiR, tynR, k_int_bool]
@[simp] theorem ev_isiT (ds : List PyData) : isiR "tuple" (.da (.tuple ds)) = some (.da (.bool true)) := by simp [isiR, tynR, k_tuple_tuple]
@[simp] theorem ev_isiL (ds : List PyData) : isiR "list" (.da (.list ds)) = some (.da (.bool true)) := by simp [isiR, tynR, k_list_list]
@[simp] theorem ev_isiO (ds : List PyData) : isiR "list" (.lst ds) = some (.da (.bool true)) := by simp [isiR, tynR, k_list_list]
@[simp] theorem ev_isiS (z : Str) : isiR "str" (.da (.str z)) = some (.da (.bool true)) := by simp [isiR, tynR, k_str_str]
@[simp] theorem ev_isiQ (p : Rat) : isiR "tuple" (.da (qD p)) = some (.da (.bool true)) := ev_isiT _
@[simp] theorem ev_isiG (m p : Rat) (v : Int) : isiR "tuple" (.da (legD m p v)) = some (.da (.bool true)) := ev_isiT _
@[simp] theorem ev_lenQ (p : Rat) : lenV (.da (qD p)) = some (.da (.int 2)) := rfl
@[simp] theorem ev_lenG (m p : Rat) (v : Int) : lenV (.da (legD m p v)) = some (.da (.int 3)) := rfl
@[simp] theorem f_whole_eq (i : Int) : f_l_whole [.da (.int i)] = some (.ok (.da (.bool true)) []) := by simp [f_l_whole, b_l_whole]
@[simp] theorem f_part_eq (p q : Rat) : f_l_part [.da (qD p), .da (qD q)] = some (.ok (.da (.bool (decide (p = q)))) []) := by simp [f_l_part, b_l_part]
/-! ### draws -/
theorem atI_nat {α : Type} {xs : List α} {k : Nat} : atI xs ((k : Nat) : Int) = xs[k]? := by
  unfold atI ixN
  rw [if_pos (by omega)]
  split
  · simp
  · rename_i h
    rw [List.getElem?_eq_none (by omega)]; rfl
theorem f_cell_eq (ns : List Int) (k : Nat) (hk : k < 2 ^ 64) : f_l_cell [.scr ns, .da (.int (k : Int))] = some (.ok (.da (.int (cell ns k))) []) := by
  by_cases h : k < ns.length
  · simp [f_l_cell, b_l_cell, h, atI_nat, cell]
  · simp [f_l_cell, b_l_cell, h, cell, ev_mulI (cmul_of (a := 17) (b := (k : Int)) (n := 64) (m := 64) (by decide) (by omega) (by decide))]
end Sm

set_option exponentiation.threshold 20000
namespace Sm
open PySem L2 Cg
/-! ### loops -/
/-- a slot that holds something or nothing -/
def svo : Option Rs → Sv
  | none => .un
  | some r => .ow r
theorem svo_s (r : Rs) : svo (some r) = .ow r := rfl
theorem svo_n : svo none = .un := rfl
@[simp] theorem ev_dropV (i : Nat) (o : Option Rs) (ρ : En) : dropA i (svo o :: ρ) = svo o :: dropA i ρ := by cases o <;> rfl
@[simp] theorem ev_forD (i : Nat) (sd : FD) (b : FS) (ρ : En) : forD i sd b ρ = (match sd ρ with
  | some (.ok d) => (match itD d with
    | some ds => forL i b ds ρ
    | none => none)
  | _ => none) := rfl
noncomputable def forN (i : Nat) (b : FS) (o : Option (Rz PyData)) (ρ : En) : Option Out := forR i (fun _ => o) b ρ
@[simp] theorem ev_forR (i : Nat) (sd : FD) (b : FS) (ρ : En) : forR i sd b ρ = forN i b (sd ρ) ρ := by
  unfold forN forR
  exact Eq.refl _
@[simp] theorem ev_itL (ds : List PyData) : itD (.list ds) = some ds := rfl
@[simp] theorem ev_itT (ds : List PyData) : itD (.tuple ds) = some ds := rfl
@[simp] theorem ev_for0 (i : Nat) (b : FS) (ρ : En) : forL i b [] ρ = some (.nx ρ) := rfl
theorem ev_for1 (i : Nat) (b : FS) (d : PyData) (ds : List PyData) (ρ : En) : forL i b (d :: ds) ρ = if i < ρ.length then (match b (put ρ i (.ow (.da d))) with
    | some (.nx ρ1) => forL i b ds ρ1
    | some (.ct ρ1) => forL i b ds ρ1
    | some (.bk ρ1) => some (.nx ρ1)
    | some (.rt x ρ1) => some (.rt x ρ1)
    | some (.ex c ρ1) => some (.ex c ρ1)
    | none => none) else none := rfl
def rngA (lo : Nat) : Nat → List PyData
  | 0 => []
  | n + 1 => .int (lo : Nat) :: rngA (lo + 1) n
theorem rngA_eq : ∀ (n lo : Nat), rngA lo n = (List.range n).map fun i => .int ((lo + i : Nat) : Int)
  | 0, _ => rfl
  | n + 1, lo => by
    rw [rngA, rngA_eq n (lo + 1), List.range_succ_eq_map, List.map_cons, List.map_map]
    congr 1
    refine List.map_congr_left fun i _ => ?_
    show PyData.int _ = PyData.int _
    congr 2
    omega
@[simp] theorem rng_A (n : Nat) : rng 0 n = rngA 0 n := by
  rw [rngA_eq]
  unfold rng
  refine List.map_congr_left fun i _ => ?_
  simp
theorem forN_n {i : Nat} {b : FS} {ρ : En} {n : Nat} (h : n ≤ 1000000000) : forN i b (some (.ok (.int (n : Int)))) ρ = forL i b (rngA 0 n) ρ := by
  unfold forN forR
  simp only
  have h1 : -(2 ^ 62) ≤ (n : Int) := by omega
  have h2 : (n : Int) < 2 ^ 62 := by omega
  rw [if_pos ⟨h1, h2⟩, Int.toNat_natCast, rng_A]
/-- a loop by what stands ahead of each turn -/
theorem forL_inv {i : Nat} {b : FS} (I : Nat → En → Prop) : ∀ (ds : List PyData) (k0 : Nat) (ρ : En), I k0 ρ →
    (∀ k d ρ, ds[k]? = some d → I (k0 + k) ρ → i < ρ.length ∧ ∃ ρ', (b (put ρ i (.ow (.da d))) = some (.nx ρ') ∨ b (put ρ i (.ow (.da d))) = some (.ct ρ')) ∧ I (k0 + k + 1) ρ') → ∃ ρ', forL i b ds ρ = some (.nx ρ') ∧ I (k0 + ds.length) ρ'
  | [], k0, ρ, h, _ => ⟨ρ, rfl, h⟩
  | d :: ds, k0, ρ, h, st => by
    obtain ⟨hl, ρ1, hb, h1⟩ := st 0 d ρ rfl h
    obtain ⟨ρ', e, h2⟩ := forL_inv I ds (k0 + 1) ρ1 h1 fun k d' ρ'' hk hI => by
      have := st (k + 1) d' ρ'' (by simpa using hk) (by rw [show k0 + (k + 1) = k0 + 1 + k by omega]; exact hI)
      rw [show k0 + 1 + k + 1 = k0 + (k + 1) + 1 by omega]
      exact this
    refine ⟨ρ', ?_, by rw [List.length_cons, show k0 + (ds.length + 1) = k0 + 1 + ds.length by omega]; exact h2⟩
    rw [ev_for1, if_pos hl]
    rcases hb with hb | hb <;> rw [hb] <;> exact e
/-- a range loop by what stands ahead of each turn -/
theorem forA_inv {i : Nat} {b : FS} (I : Nat → En → Prop) (n : Nat) (ρ : En) (h0 : I 0 ρ)
    (st : ∀ k ρ, k < n → I k ρ → i < ρ.length ∧ ∃ ρ', (b (put ρ i (.ow (.da (.int (k : Int))))) = some (.nx ρ') ∨ b (put ρ i (.ow (.da (.int (k : Int))))) = some (.ct ρ')) ∧ I (k + 1) ρ') : ∃ ρ', forL i b (rngA 0 n) ρ = some (.nx ρ') ∧ I n ρ' := by
  have := forL_inv (i := i) (b := b) I (rngA 0 n) 0 ρ h0 fun k d ρ' hk hI => by
    rw [rngA_eq] at hk
    simp only [List.getElem?_map] at hk
    by_cases hkn : k < n
    · rw [List.getElem?_range hkn] at hk
      simp at hk
      subst hk
      rw [Nat.zero_add] at hI ⊢
      exact st k ρ' hkn hI
    · rw [List.getElem?_eq_none (by simp; omega)] at hk
      simp at hk
  rw [show 0 + (rngA 0 n).length = n by rw [rngA_eq]; simp] at this
  exact this
/-! ### digits -/
@[simp] theorem ev_getP0 (r : Rs) : getP r [] = some r := by cases r <;> rfl
@[simp] theorem ev_setP0 (r x : Rs) : setP r [] x = x := by cases r <;> rfl
@[simp] theorem ev_getPf (c : Str) (fs : List (Str × Rs)) (n : Str) (π : List Pe) : getP (.ins c fs) (.f n :: π) = (match fs.lookup n with
  | some r => getP r π
  | none => none) := by rw [getP] <;> rfl
@[simp] theorem ev_setPf (c : Str) (fs : List (Str × Rs)) (n : Str) (π : List Pe) (y : Rs) : setP (.ins c fs) (.f n :: π) y = (match fs.lookup n with
  | some x => .ins c (putR n (setP x π y) fs)
  | none => .ins c fs) := by rw [setP] <;> rfl
theorem forL_nx {i : Nat} {b : FS} {d : PyData} {ds : List PyData} {ρ ρ1 : En} (h : b (put ρ i (.ow (.da d))) = some (.nx ρ1)) (hl : i < ρ.length) : forL i b (d :: ds) ρ = forL i b ds ρ1 := by
  rw [ev_for1, if_pos hl, h]
@[simp] theorem ev_upS0 (ρ : En) (i : Nat) (x : Rs) : upS ρ i [] x = (match ρ[i]? with
  | some (.ow r) => (clA (ρ.set i (.ow .un))).set i (.ow x)
  | _ => ρ) := by
  unfold upS
  cases ρ[i]? with
  | none => rfl
  | some s => cases s <;> first | rfl | (simp only [ev_setP0])
def NoAl : Sv → Bool
  | .al _ _ => false
  | _ => true
theorem clA_no {ρ : En} (h : ρ.all NoAl = true) : clA ρ = ρ := by
  unfold clA
  conv => rhs; rw [← List.map_id ρ]
  refine List.map_congr_left fun s m => ?_
  have := List.all_eq_true.mp h s m
  cases s with
  | al _ _ => cases this
  | _ => rfl
@[simp] theorem noAl_o (r : Rs) : NoAl (.ow r) = true := rfl
@[simp] theorem noAl_b (r : Rs) : NoAl (.bo r) = true := rfl
@[simp] theorem noAl_u : NoAl .un = true := rfl
@[simp] theorem noAl_v (o : Option Rs) : NoAl (svo o) = true := by cases o <;> rfl
theorem ev_app {ds : List PyData} {d : PyData} (h : ds.length < sizeLine) : appF ds [d] = some (.none, ds ++ [d]) := if_pos h
theorem dgA_loop (s0 s1 : Rs) : ∀ (ss : List Int) (out : List PyData) (r : Int), (∀ t ∈ ss, 0 < t ∧ t.natAbs < 2 ^ 200) → out.length + ss.length ≤ 1000 →
    ∃ r', forL 4 w_l_digits_0 (ss.map .int) [.bo s0, .bo s1, .ow (.lst out), .ow (.da (.int r)), .un, .un, .un, .un] = some (.nx [.bo s0, .bo s1, .ow (.lst (out ++ (dgA r ss).map .int)), .ow (.da (.int r')), .un, .un, .un, .un])
  | [], out, r, _, _ => ⟨r, by simp [dgA]⟩
  | t :: ss, out, r, h, hl => by
    have ht := h t (by simp)
    obtain ⟨r', e⟩ := dgA_loop s0 s1 ss (out ++ [.int (r % t)]) (r / t) (fun t' m => h t' (by simp [m])) (by simp at hl ⊢; omega)
    refine ⟨r', ?_⟩
    have hz : out.length < sizeLine := by simp at hl; unfold sizeLine; omega
    rw [List.map_cons, forL_nx (ρ1 := [.bo s0, .bo s1, .ow (.lst (out ++ [.int (r % t)])), .ow (.da (.int (r / t))), .un, .un, .un, .un]) ?_ (by simp), e]
    · simp [dgA]
    · simp [w_l_digits_0, ev_modI ht.1, ev_divI (cdiv_of (a := r) ht.1 ht.2 (by decide)), ev_app hz, clA_no]
theorem dgB_loop (s0 : Rs) : ∀ (ss pre : List Int) (out : List PyData) (r : Int), (∀ t ∈ ss, 0 < t) → out.length + ss.length ≤ 1000 → pre.length + ss.length ≤ 1000 → 0 ≤ r → r < 2147483647 →
    ∃ r', forL 6 w_l_digits_1 (rngA pre.length ss.length) [.bo s0, .bo (.da (.list ((pre ++ ss).map .int))), .ow (.lst out), .un, .un, .ow (.da (.int r)), .un, .un] = some (.nx [.bo s0, .bo (.da (.list ((pre ++ ss).map .int))), .ow (.lst (out ++ (dgB r pre.length ss).map .int)), .un, .un, .ow (.da (.int r')), .un, .un])
  | [], pre, out, r, _, _, _, _, _ => ⟨r, by simp [dgB, rngA]⟩
  | t :: ss, pre, out, r, h, hl, hp, h0, h1 => by
    have ht := h t (by simp)
    have h2 := dg_one r pre.length
    have h3 := dg_two (dgOne r pre.length) pre.length
    obtain ⟨r', e⟩ := dgB_loop s0 ss (pre ++ [t]) (out ++ [.int (dgTwo (dgOne r pre.length) pre.length / 11 % t)]) (dgOne r pre.length) (fun t' m => h t' (by simp [m])) (by simp at hl ⊢; omega) (by simp at hp ⊢; omega) h2.1 (by omega)
    refine ⟨r', ?_⟩
    have hz : out.length < sizeLine := by simp at hl; unfold sizeLine; omega
    rw [show (pre ++ [t]).length = pre.length + 1 by simp, show (pre ++ [t]) ++ ss = pre ++ t :: ss by simp] at e
    rw [List.length_cons, rngA, forL_nx (ρ1 := [.bo s0, .bo (.da (.list ((pre ++ t :: ss).map .int))), .ow (.lst (out ++ [.int (dgTwo (dgOne r pre.length) pre.length / 11 % t)])), .un, .un, .ow (.da (.int (dgOne r pre.length))), .un, .un]) ?_ (by simp), e]
    · simp [dgB]
    · have hp' : pre.length ≤ 1000 := by omega
      have m1 := ev_mulI (cmul_of (a := r) (b := 48271) (n := 64) (m := 64) (by omega) (by decide) (by decide))
      have m2 := ev_mulI (cmul_of (a := 10007) (b := (pre.length : Int) + 1) (n := 64) (m := 64) (by decide) (by omega) (by decide))
      have m3 := ev_mulI (cmul_of (a := dgOne r pre.length) (b := dgOne r pre.length) (n := 64) (m := 64) (by omega) (by omega) (by decide))
      have m4 := ev_mulI (cmul_of (a := 69621) (b := dgOne r pre.length) (n := 64) (m := 64) (by decide) (by omega) (by decide))
      have d1 := ev_divI (cdiv_of (a := dgTwo (dgOne r pre.length) pre.length) (b := 11) (m := 64) (by decide) (by decide) (by decide))
      have q1 := ev_modI (i := r * 48271 + 10007 * ((pre.length : Int) + 1)) (j := 2147483629) (by decide)
      have q2 := ev_modI (i := dgOne r pre.length * dgOne r pre.length + 69621 * dgOne r pre.length + (pre.length : Int)) (j := 2147483563) (by decide)
      rw [show (r * 48271 + 10007 * ((pre.length : Int) + 1)) % 2147483629 = dgOne r pre.length from rfl] at q1
      rw [show (dgOne r pre.length * dgOne r pre.length + 69621 * dgOne r pre.length + (pre.length : Int)) % 2147483563 = dgTwo (dgOne r pre.length) pre.length from rfl] at q2
      simp [w_l_digits_1, m1, m2, m3, m4, d1, q1, q2, ev_modI ht, ev_app hz, clA_no, atI_nat]
theorem ev_p18 : powI (.da (.int 10)) (.da (.int 18)) = some (.da (.int 1000000000000000000)) := by rw [ev_powI, if_pos (by decide)]; rfl
theorem f_digits_A {c : Int} {ss : List Int} (hc : 1000000000000000000 ≤ c) (h : ∀ t ∈ ss, 0 < t ∧ t.natAbs < 2 ^ 200) (hl : ss.length ≤ 1000) : f_l_digits [.da (.int c), .da (.list (ss.map .int))] = some (.ok (.lst ((digits c ss).map .int)) []) := by
  obtain ⟨r', e⟩ := dgA_loop (.da (.int c)) (.da (.list (ss.map .int))) ss [] (c - 1000000000000000000) h (by simpa using hl)
  simp [f_l_digits, b_l_digits, -ev_powI, ev_p18, hc, e, digits]
theorem f_digits_B {c : Int} {ss : List Int} (hc : ¬ 1000000000000000000 ≤ c) (h : ∀ t ∈ ss, 0 < t ∧ t.natAbs < 2 ^ 200) (hl : ss.length ≤ 1000) : f_l_digits [.da (.int c), .da (.list (ss.map .int))] = some (.ok (.lst ((digits c ss).map .int)) []) := by
  obtain ⟨r', e⟩ := dgB_loop (.da (.int c)) ss [] [] (c % 2147483647) (fun t m => (h t m).1) (by simpa using hl) (by simpa using hl) (Int.emod_nonneg _ (by decide)) (Int.emod_lt_of_pos _ (by decide))
  have hr : ss.length ≤ 1000000000 := by omega
  simp at e
  simp [f_l_digits, b_l_digits, -ev_powI, ev_p18, hc, ev_modI (i := c) (j := 2147483647) (by decide), e, digits, forN_n hr]
theorem f_digits_eq (c : Int) (ss : List Int) (h : ∀ t ∈ ss, 0 < t ∧ t.natAbs < 2 ^ 200) (hl : ss.length ≤ 1000) : f_l_digits [.da (.int c), .da (.list (ss.map .int))] = some (.ok (.lst ((digits c ss).map .int)) []) := by
  by_cases hc : 1000000000000000000 ≤ c
  · exact f_digits_A hc h hl
  · exact f_digits_B hc h hl
end Sm

set_option exponentiation.threshold 20000
namespace Sm
open PySem L2 Cg
/-! ### drawn fractions, later moments -/
def drawnR (a b d : Int) : Rat := if a = 0 then ((b % 19 - 9 : Int) : Rat) / ((1 + d % 12 : Int) : Rat) else if a = 1 then ((b % 2000001 - 1000000 : Int) : Rat) / ((1 + d % 60 : Int) : Rat)
  else if a = 2 then ((b % 7 - 3 : Int) : Rat) / ((1 : Int) : Rat) else ((b - 5 * 10000000 : Int) : Rat) / ((1 + d : Int) : Rat)
def drawn (c : Int) : Rat := match digits c [4, 1000000000000000000000000000000, 1000000000000000000000000000000] with
  | [a, b, d] => drawnR a b d
  | _ => 0
theorem drawnR_sz {a b d : Int} (hb : 0 ≤ b) (hb' : b < 1000000000000000000000000000000) (hd : 0 ≤ d) (hd' : d < 1000000000000000000000000000000) : Sz 101 (drawnR a b d) := by
  unfold drawnR
  split
  · exact Sz.div (by omega) (by omega) (by omega)
  split
  · exact Sz.div (by omega) (by omega) (by omega)
  split
  · exact Sz.div (by omega) (by omega) (by omega)
  · exact Sz.div (by omega) (by omega) (by omega)
theorem drawn_sz (c : Int) : Sz 101 (drawn c) := by
  have hb := digits_below c [4, 1000000000000000000000000000000, 1000000000000000000000000000000] (by decide)
  unfold drawn
  generalize digits c [4, 1000000000000000000000000000000, 1000000000000000000000000000000] = row at hb ⊢
  obtain ⟨r0, _, rfl, h00, h01, hb⟩ := below_cons hb
  obtain ⟨r1, _, rfl, h10, h11, hb⟩ := below_cons hb
  obtain ⟨r2, _, rfl, h20, h21, hb⟩ := below_cons hb
  cases below_nil hb
  exact drawnR_sz h10 h11 h20 h21
def laterM (md : Int) : Int := if md = 0 then 4 else if md = 1 then 6 else 60
def laterU (b md : Int) : Int := 1 + b % laterM md
def laterS (n U md : Int) : Int := if md = 3 then 1 + n / 8 % (500 * U) else 1 + n / 8 % (2 * U)
def laterR (c : Rat) (n b md : Int) : Rat := if n % 8 = 0 then c else ((c.num * laterU b md / c.den + laterS n (laterU b md) md : Int) : Rat) / ((laterU b md : Int) : Rat)
theorem laterM_le (md : Int) : 4 ≤ laterM md ∧ laterM md ≤ 60 := by unfold laterM; split <;> (try split) <;> omega
theorem laterU_le (b md : Int) : 1 ≤ laterU b md ∧ laterU b md ≤ 60 := by
  have h := laterM_le md
  have h1 := Int.emod_nonneg b (show laterM md ≠ 0 by omega)
  have h2 := Int.emod_lt_of_pos b (show 0 < laterM md by omega)
  unfold laterU; omega
theorem laterS_le (n U md : Int) (hU : 1 ≤ U) : 1 ≤ laterS n U md ∧ laterS n U md ≤ 500 * U := by
  unfold laterS
  have a1 := Int.emod_nonneg (n / 8) (show 500 * U ≠ 0 by omega)
  have a2 := Int.emod_lt_of_pos (n / 8) (show 0 < 500 * U by omega)
  have a3 := Int.emod_nonneg (n / 8) (show 2 * U ≠ 0 by omega)
  have a4 := Int.emod_lt_of_pos (n / 8) (show 0 < 2 * U by omega)
  split <;> omega
theorem den_div_le {a b : Int} (hb : 0 < b) : (((a : Rat) / (b : Rat)).den : Int) ≤ b := by
  rw [← Rat.divInt_eq_div, Rat.den_divInt, if_neg (by omega)]
  have := Nat.div_le_self b.natAbs (b.gcd a)
  omega
theorem int_pos {b : Int} (h : 0 < b) : (0 : Rat) < (b : Rat) := by exact_mod_cast h
theorem later_gt {c : Rat} {n b md : Int} (h : ¬ n % 8 = 0) : c < laterR c n b md := by
  unfold laterR
  rw [if_neg h]
  obtain ⟨u1, u2⟩ := laterU_le b md
  obtain ⟨s1, s2⟩ := laterS_le n _ md u1
  generalize laterU b md = U at *
  generalize laterS n U md = S at *
  have hd := den_pos c
  rw [Rat.lt_div_iff (int_pos (by omega))]
  have h1 : c.num * U < (c.num * U / (c.den : Int) + S) * c.den := by
    have := Int.lt_ediv_add_one_mul_self (c.num * U) hd
    refine Int.lt_of_lt_of_le this (Int.mul_le_mul_of_nonneg_right (by omega) (by omega))
  have h2 : c * (U : Rat) = ((c.num * U : Int) : Rat) / ((c.den : Int) : Rat) := by
    conv => lhs; rw [rat_eq c]
    have := den_ne c
    rw [Rat.intCast_mul]
    grind
  rw [h2, Rat.div_lt_iff (int_pos hd)]
  exact_mod_cast h1
theorem later_ge (c : Rat) (n b md : Int) : c ≤ laterR c n b md := by
  by_cases h : n % 8 = 0
  · rw [laterR, if_pos h]; exact Rat.le_refl
  · exact Rat.le_of_lt (later_gt h)
theorem later_le (c : Rat) (n b md : Int) : laterR c n b md ≤ c + 500 := by
  by_cases h : n % 8 = 0
  · rw [laterR, if_pos h]; grind
  unfold laterR
  rw [if_neg h]
  obtain ⟨u1, u2⟩ := laterU_le b md
  obtain ⟨s1, s2⟩ := laterS_le n _ md u1
  generalize laterU b md = U at *
  generalize laterS n U md = S at *
  have hd := den_pos c
  have hU := int_pos (show 0 < U by omega)
  have h0 : ((c.num * U / (c.den : Int) : Int) : Rat) ≤ c * (U : Rat) := by
    have h2 : c * (U : Rat) = ((c.num * U : Int) : Rat) / ((c.den : Int) : Rat) := by
      conv => lhs; rw [rat_eq c]
      have := den_ne c
      rw [Rat.intCast_mul]
      grind
    rw [h2]
    have h3 : c.num * U / (c.den : Int) * c.den ≤ c.num * U := Int.ediv_mul_le _ (by omega)
    have h4 : ¬ ((c.num * U : Int) : Rat) / ((c.den : Int) : Rat) < ((c.num * U / (c.den : Int) : Int) : Rat) := by
      rw [Rat.div_lt_iff (int_pos hd)]
      intro z
      have : c.num * U < c.num * U / (c.den : Int) * c.den := by exact_mod_cast z
      omega
    exact Rat.not_lt.mp h4
  have h5 : ((S : Int) : Rat) ≤ 500 * (U : Rat) := by exact_mod_cast s2
  refine Rat.not_lt.mp fun z => ?_
  rw [Rat.lt_div_iff hU, Rat.intCast_add] at z
  grind
/-- a moment of the laws -/
structure Mo (B : Int) (c : Rat) : Prop where
  ge : (-B : Rat) ≤ c
  le : c ≤ (B : Rat)
  den : c.den ≤ 60
theorem mo_later {B : Int} {c : Rat} (h : Mo B c) (n b md : Int) : Mo (B + 500) (laterR c n b md) := by
  have h1 := later_ge c n b md
  have h2 := later_le c n b md
  have h3 := h.ge
  have h4 := h.le
  have e : ((500 : Int) : Rat) = 500 := rfl
  refine ⟨?_, ?_, ?_⟩
  · rw [Rat.intCast_add, e]
    grind
  · rw [Rat.intCast_add, e]
    grind
  · unfold laterR
    split
    · exact h.den
    · obtain ⟨u1, u2⟩ := laterU_le b md
      have := den_div_le (a := c.num * laterU b md / c.den + laterS n (laterU b md) md) (b := laterU b md) (by omega)
      omega
theorem mo_zero : Mo 0 0 := ⟨by decide, by decide, by decide⟩
theorem Mo.sz {B : Int} {c : Rat} (h : Mo B c) (hB : B ≤ 1000000000) : Sz 40 c := by
  have hd := den_pos c
  have hq : c = (c.num : Rat) / ((c.den : Int) : Rat) := rat_eq c
  have h1 := h.ge
  have h2 := h.le
  have h3 := h.den
  have a1 : c.num ≤ B * c.den := by
    rw [hq] at h2
    have : ¬ (B : Rat) < (c.num : Rat) / ((c.den : Int) : Rat) := Rat.not_lt.mpr h2
    rw [Rat.lt_div_iff (int_pos hd)] at this
    have z : ¬ B * c.den < c.num := fun z => this (by exact_mod_cast z)
    omega
  have a2 : -(B * c.den) ≤ c.num := by
    rw [hq] at h1
    have : ¬ (c.num : Rat) / ((c.den : Int) : Rat) < (-B : Rat) := Rat.not_lt.mpr h1
    rw [Rat.div_lt_iff (int_pos hd)] at this
    have z : ¬ c.num < -B * c.den := fun z => this (by exact_mod_cast z)
    rw [Int.neg_mul] at z
    omega
  have a3 : B * c.den ≤ 1000000000 * 60 := by
    by_cases hb : 0 ≤ B
    · exact Int.mul_le_mul hB (by omega) (by omega) (by decide)
    · have : B * c.den ≤ 0 := Int.mul_nonpos_of_nonpos_of_nonneg (by omega) (by omega)
      omega
  refine ⟨?_, ?_⟩
  · omega
  · omega
theorem f_drawn_eq (c : Int) : f_l_drawn [.da (.int c)] = some (.ok (.da (qD (drawn c))) []) := by
  have hb := digits_below c [4, 1000000000000000000000000000000, 1000000000000000000000000000000] (by decide)
  have hd := f_digits_eq c [4, 1000000000000000000000000000000, 1000000000000000000000000000000] (by decide) (by decide)
  unfold drawn
  generalize digits c [4, 1000000000000000000000000000000, 1000000000000000000000000000000] = row at hb hd ⊢
  obtain ⟨r0, _, rfl, h00, h01, hb⟩ := below_cons hb
  obtain ⟨r1, _, rfl, h10, h11, hb⟩ := below_cons hb
  obtain ⟨r2, _, rfl, h20, h21, hb⟩ := below_cons hb
  cases below_nil hb
  have p30 : powI (.da (.int 10)) (.da (.int 30)) = some (.da (.int 1000000000000000000000000000000)) := by rw [ev_powI, if_pos (by decide)]; rfl
  have p7 : powI (.da (.int 10)) (.da (.int 7)) = some (.da (.int 10000000)) := by rw [ev_powI, if_pos (by decide)]; rfl
  have m5 := ev_mulI (cmul_of (a := 5) (b := 10000000) (n := 64) (m := 64) (by decide) (by decide) (by decide))
  simp only [List.map_cons, List.map_nil] at hd
  have q0 : ∀ i : Int, modI (.da (.int i)) (.da (.int 19)) = some (.da (.int (i % 19))) := fun i => ev_modI (by decide)
  have q1 : ∀ i : Int, modI (.da (.int i)) (.da (.int 12)) = some (.da (.int (i % 12))) := fun i => ev_modI (by decide)
  have q2 : ∀ i : Int, modI (.da (.int i)) (.da (.int 2000001)) = some (.da (.int (i % 2000001))) := fun i => ev_modI (by decide)
  have q3 : ∀ i : Int, modI (.da (.int i)) (.da (.int 60)) = some (.da (.int (i % 60))) := fun i => ev_modI (by decide)
  have q4 : ∀ i : Int, modI (.da (.int i)) (.da (.int 7)) = some (.da (.int (i % 7))) := fun i => ev_modI (by decide)
  have l0 := f_low_eq (a := r1 % 19 - 9) (b := 1 + r2 % 12) (by omega) (nlt_mono (n := 64) (by omega) (by decide))
  have l1 := f_low_eq (a := r1 % 2000001 - 1000000) (b := 1 + r2 % 60) (by omega) (nlt_mono (n := 64) (by omega) (by decide))
  have l2 := f_low_eq (a := r1 % 7 - 3) (b := 1) (by omega) (nlt_mono (n := 64) (by omega) (by decide))
  have l3 := f_low_eq (a := r1 - 5 * 10000000) (b := 1 + r2) (by omega) (nlt_mono (n := 128) (by omega) (by decide))
  have at0 : ∀ a b c : PyData, atI [a, b, c] 0 = some a := fun _ _ _ => rfl
  have at1 : ∀ a b c : PyData, atI [a, b, c] 1 = some b := fun _ _ _ => rfl
  have at2 : ∀ a b c : PyData, atI [a, b, c] 2 = some c := fun _ _ _ => rfl
  have hr : r0 = 0 ∨ r0 = 1 ∨ r0 = 2 ∨ r0 = 3 := by omega
  rcases hr with rfl | rfl | rfl | rfl
  · simp [f_l_drawn, b_l_drawn, -ev_powI, p30, hd, at0, at1, at2, q0, q1, l0, drawnR]
  · simp [f_l_drawn, b_l_drawn, -ev_powI, p30, hd, at0, at1, at2, q2, q3, l1, drawnR]
  · simp only [drawnR]
    simp [f_l_drawn, b_l_drawn, -ev_powI, p30, hd, at0, at1, at2, q4]
    rw [l2]
    simp
  · simp only [drawnR]
    simp [f_l_drawn, b_l_drawn, -ev_powI, p30, p7, m5, hd, at0, at1, at2]
    rw [show (50000000 : Int) = 5 * 10000000 from rfl, l3]
    simp
theorem f_later_eq {n0 : Nat} {c : Rat} {n b md : Int} (h0 : 0 ≤ md) (h1 : md < 4) (hc : Sz n0 c) (hs : n0 ≤ 7000) : f_l_later [.da (qD c), .da (.int n), .da (.int b), .da (.int md)] = some (.ok (.da (qD (laterR c n b md))) []) := by
  obtain ⟨u1, u2⟩ := laterU_le b md
  have q8 : modI (.da (.int n)) (.da (.int 8)) = some (.da (.int (n % 8))) := ev_modI (by decide)
  by_cases h8 : n % 8 = 0
  · simp [f_l_later, b_l_later, q8, h8, laterR]
  have it : atI [PyData.int 4, .int 6, .int 60, .int 60] md = some (.int (laterM md)) := by
    have : md = 0 ∨ md = 1 ∨ md = 2 ∨ md = 3 := by omega
    rcases this with rfl | rfl | rfl | rfl <;> rfl
  have hM := laterM_le md
  have qU : modI (.da (.int b)) (.da (.int (laterM md))) = some (.da (.int (b % laterM md))) := ev_modI (by omega)
  have eU : 1 + b % laterM md = laterU b md := rfl
  have d8 : divI (.da (.int n)) (.da (.int 8)) = some (.da (.int (n / 8))) := ev_divI (cdiv_of (m := 64) (by decide) (by decide) (by decide))
  have m2 := ev_mulI (cmul_of (a := 2) (b := laterU b md) (n := 64) (m := 64) (by decide) (by omega) (by decide))
  have m5 := ev_mulI (cmul_of (a := 500) (b := laterU b md) (n := 64) (m := 64) (by decide) (by omega) (by decide))
  have s2 : modI (.da (.int (n / 8))) (.da (.int (2 * laterU b md))) = some (.da (.int (n / 8 % (2 * laterU b md)))) := ev_modI (by omega)
  have s5 : modI (.da (.int (n / 8))) (.da (.int (500 * laterU b md))) = some (.da (.int (n / 8 % (500 * laterU b md)))) := ev_modI (by omega)
  have mc := ev_mulI (cmul_of (b := laterU b md) (m := 64) hc.num (by omega) (by omega))
  have dc := ev_divI (cdiv_of (a := c.num * laterU b md) (den_pos c) hc.den (by omega))
  by_cases h3 : md = 3
  · have e : 1 + n / 8 % (500 * laterU b md) = laterS n (laterU b md) md := by rw [laterS, if_pos h3]
    have l := f_low_eq (a := c.num * laterU b md / c.den + laterS n (laterU b md) md) (b := laterU b md) (by omega) (nlt_mono (n := 64) (by omega) (by decide))
    subst h3
    simp [f_l_later, b_l_later, q8, h8, laterR, it, qU, eU, d8, m2, m5, s2, s5, mc, dc, e, l]
  · have e : 1 + n / 8 % (2 * laterU b md) = laterS n (laterU b md) md := by rw [laterS, if_neg h3]
    have l := f_low_eq (a := c.num * laterU b md / c.den + laterS n (laterU b md) md) (b := laterU b md) (by omega) (nlt_mono (n := 64) (by omega) (by decide))
    simp [f_l_later, b_l_later, q8, h8, laterR, it, qU, eU, d8, m2, m5, s2, s5, mc, dc, h3, e, l]
end Sm

set_option exponentiation.threshold 20000
namespace Sm
open PySem L2 Cg
/-! ### logs -/
structure Leg where
  m : Rat
  p : Rat
  v : Int
def Leg.d (l : Leg) : PyData := legD l.m l.p l.v
def legsD (ls : List Leg) : List PyData := ls.map Leg.d
abbrev logR (ls : List Leg) (e : PyData) : Rs := .ins "Log" [("rows", .lst (legsD ls)), ("end", .da e)]
def Leg.at (l : Leg) (m : Rat) : Rat := onLeg l.m l.p l.v m
/-- the rows behind a turn -/
def turnL (ls : List Leg) (m : Rat) (v : Int) : List Leg := match ls.getLast? with
  | none => ls
  | some l =>
    let r := if l.m = m then ls.dropLast else ls
    match r.getLast? with
    | none => r ++ [⟨m, l.at m, v⟩]
    | some l' => if l'.v = v then r else r ++ [⟨m, l.at m, v⟩]
theorem popF_eq (ds : List PyData) (d : PyData) (h : ds.getLast? = some d) (as : List PyData) : popF ds as = some (d, ds.dropLast) := by
  unfold popF
  rw [← List.getLast?_eq_getElem?, h]; rfl
theorem legs_last (ls : List Leg) : (legsD ls).getLast? = ls.getLast?.map Leg.d := by unfold legsD; rw [List.getLast?_map]
theorem legs_drop (ls : List Leg) : (legsD ls).dropLast = legsD ls.dropLast := by unfold legsD; rw [List.map_dropLast]
theorem legs_app (ls : List Leg) (l : Leg) : legsD ls ++ [l.d] = legsD (ls ++ [l]) := by unfold legsD; simp
theorem legs_len (ls : List Leg) : (legsD ls).length = ls.length := by unfold legsD; simp
@[simp] theorem ev_rowsR (ls : List Leg) (e : PyData) : atR "Log" "rows" (logR ls e) = some (.lst (legsD ls)) := rfl
@[simp] theorem ev_endR (ls : List Leg) (e : PyData) : atR "Log" "end" (logR ls e) = some (.da e) := rfl
@[simp] theorem ev_legsD0 (l : Leg) : subR (.da l.d) (.da (.int 0)) = some (.da (qD l.m)) := rfl
@[simp] theorem ev_legsD1 (l : Leg) : subR (.da l.d) (.da (.int 1)) = some (.da (qD l.p)) := rfl
@[simp] theorem ev_legsD2 (l : Leg) : subR (.da l.d) (.da (.int 2)) = some (.da (.int l.v)) := rfl
theorem f_Log_init {m p : Rat} {v : Int} : f_Log___init__ [.ins "Log" [], .da (qD m), .da (qD p), .da (.int v)] = some (.ok (.da .none) [logR [⟨m, p, v⟩] .none]) := by
  simp [f_Log___init__, b_Log___init__, legsD, Leg.d, legD]
@[simp] theorem f_Log_legs_eq (ls : List Leg) (e : PyData) : f_Log_legs [logR ls e] = some (.ok (.lst (legsD ls)) []) := by
  simp [f_Log_legs, b_Log_legs]
@[simp] theorem f_Log_left_eq (ls : List Leg) (e : PyData) : f_Log_left [logR ls e] = some (.ok (.da e) []) := by
  simp [f_Log_left, b_Log_left]
theorem legs_snoc (ls : List Leg) (m p : Rat) (v : Int) : legsD ls ++ [.tuple [qD m, qD p, .int v]] = legsD (ls ++ [⟨m, p, v⟩]) := legs_app ls ⟨m, p, v⟩
theorem legs_at (ls : List Leg) : atI (legsD ls) (-1) = ls.getLast?.map Leg.d := by rw [atI_last, legs_last]
theorem len_last {α : Type} {ls : List α} {l : α} (h : ls.getLast? = some l) : 0 < ls.length := by
  cases ls with
  | nil => simp at h
  | cons => simp
theorem app_legs {ls : List Leg} {m p : Rat} {v : Int} (h : ls.length < 1000000) : appF (legsD ls) [.tuple [qD m, qD p, .int v]] = some (.none, legsD (ls ++ [⟨m, p, v⟩])) := by
  rw [ev_app (by rw [legs_len]; unfold sizeLine; omega), legs_snoc]
theorem f_Log_turn_eq {ls : List Leg} {e : PyData} {m : Rat} {v : Int} {l : Leg} {a b c d : Nat} (hl : ls.getLast? = some l) (h1 : Sz a l.m) (h2 : Sz b l.p) (h3 : l.v.natAbs < 2 ^ c) (h4 : Sz d m) (hs : b + (d + a + 1 + c) ≤ 8000) (hn : ls.length < 100000) :
    f_Log_turn [logR ls e, .da (qD m), .da (.int v)] = some (.ok (.da .none) [logR (turnL ls m v) e]) := by
  have hp : f_place_on [.da l.d, .da (qD m)] = some (.ok (.da (qD (l.at m))) []) := f_place_on_eq h1 h2 h3 h4 hs
  unfold f_Log_turn b_Log_turn
  refine bodyF_go (by simp; rfl) (by rfl) ?_
  (first | apply seqE | apply seqO); focus (simp (disch := first | assumption | omega) [decT, decF, legs_at, hl]; rfl)
  (first | apply seqE | apply seqO); focus (simp (disch := first | assumption | omega) [decT, decF, hp]; rfl)
  have pp : popF (legsD ls) [] = some (l.d, legsD ls.dropLast) := by rw [popF_eq _ l.d (by rw [legs_last, hl]; rfl), legs_drop]
  have e1 : ∀ r : List Leg, r.length < 100000 → (r = (if l.m = m then ls.dropLast else ls)) → turnL ls m v = (match r.getLast? with
    | none => r ++ [⟨m, l.at m, v⟩]
    | some l' => if l'.v = v then r else r ++ [⟨m, l.at m, v⟩]) := fun r _ h => by subst h; unfold turnL; simp only [hl] <;> rfl
  have tail : ∀ r : List Leg, r.length < 100000 → (r = (if l.m = m then ls.dropLast else ls)) → endF [true] (seqS (ifS (qT (andT (cm2 gtI (op1 lenV (sa1 (atR "Log" "rows") (varC 0))) (vD (cstC (.int 0)))) (cm2 eqR (subC (subC (sa1 (atR "Log" "rows") (varC 0)) (dtV (op1 negR (vD (cstC (.int 1)))))) (cstC (.int 2))) (varC 2)))) retNS nilS) (exprS (lmE appF (attrP "Log" "rows" (varP 0)) (consD (tupC (consD (dtA (varC 1)) (consD (dtA (varC 4)) (consD (dtA (varC 2)) nilD)))) nilD))) [.ow (logR r e), .bo (.da (qD m)), .bo (.da (.int v)), .un, .ow (.da (qD (l.at m)))]) = some (.ok (.da .none) [logR (turnL ls m v) e]) := fun r hr he => by
    rw [e1 r hr he]
    cases hg : r.getLast? with
    | none =>
      have : r = [] := by simpa using hg
      subst this
      (first | apply seqE | apply seqO); focus (simp (disch := first | assumption | omega) [decT, decF, legs_len]; rfl)
      (simp (disch := first | assumption | omega) [decT, decF, app_legs, legs_len])
    | some l' =>
      have := len_last hg
      by_cases hv : l'.v = v
      · (simp (disch := first | assumption | omega) [decT, decF, legs_at, hg, hv, legs_len, this])
      · (first | apply seqE | apply seqO); focus (simp (disch := first | assumption | omega) [decT, decF, legs_at, hg, hv, legs_len, this]; rfl)
        (simp (disch := first | assumption | omega) [decT, decF, app_legs, legs_len, hv])
  by_cases hm : l.m = m
  · (first | apply seqE | apply seqO); focus (simp (disch := first | assumption | omega) [decT, decF, hm, pp]; rfl)
    exact tail _ (by rw [List.length_dropLast]; omega) (by rw [if_pos hm])
  · (first | apply seqE | apply seqO); focus (simp (disch := first | assumption | omega) [decT, decF, hm]; rfl)
    exact tail _ hn (by rw [if_neg hm])
end Sm

set_option exponentiation.threshold 20000
namespace Sm
open PySem L2 Cg
theorem turnL_mem {ls : List Leg} {m : Rat} {v : Int} {l : Leg} (hl : ls.getLast? = some l) : ∀ x ∈ turnL ls m v, x ∈ ls ∨ x = ⟨m, l.at m, v⟩ := by
  intro x hx
  unfold turnL at hx
  simp only [hl] at hx
  have hr : ∀ x ∈ (if l.m = m then ls.dropLast else ls), x ∈ ls := fun x hx => by
    split at hx
    · exact (List.dropLast_sublist _).subset hx
    · exact hx
  split at hx
  · rcases List.mem_append.mp hx with h | h
    · exact .inl (hr x h)
    · exact .inr (by simpa using h)
  · split at hx
    · exact .inl (hr x hx)
    · rcases List.mem_append.mp hx with h | h
      · exact .inl (hr x h)
      · exact .inr (by simpa using h)
theorem turnL_ne {ls : List Leg} {m : Rat} {v : Int} {l : Leg} (hl : ls.getLast? = some l) : ∃ l', (turnL ls m v).getLast? = some l' := by
  unfold turnL
  simp only [hl]
  split
  · exact ⟨_, by simp; rfl⟩
  · split
    · exact ⟨_, by assumption⟩
    · exact ⟨_, by simp; rfl⟩
theorem turnL_len (ls : List Leg) (m : Rat) (v : Int) : (turnL ls m v).length ≤ ls.length + 1 := by
  unfold turnL
  split
  · omega
  · rename_i l _
    have hr : (if l.m = m then ls.dropLast else ls).length ≤ ls.length := by
      split
      · rw [List.length_dropLast]; omega
      · omega
    simp only
    split
    · simp; omega
    · split
      · omega
      · simp; omega
/-- the law's own rows behind a turn -/
theorem f_turned_eq {ls : List Leg} {m : Rat} {v : Int} {l : Leg} {a b c d : Nat} (hl : ls.getLast? = some l) (h1 : Sz a l.m) (h2 : Sz b l.p) (h3 : l.v.natAbs < 2 ^ c) (h4 : Sz d m) (hs : b + (d + a + 1 + c) ≤ 8000) (hn : ls.length < 100000) :
    f_l_turned [.da (.list (legsD ls)), .da (qD m), .da (.int v)] = some (.ok (.lst (legsD (turnL ls m v))) []) := by
  have hp : f_l_at [.da l.d, .da (qD m)] = some (.ok (.da (qD (l.at m))) []) := f_at_eq h1 h2 h3 h4 hs
  have pp : popF (legsD ls) [] = some (l.d, legsD ls.dropLast) := by rw [popF_eq _ l.d (by rw [legs_last, hl]; rfl), legs_drop]
  have e1 : ∀ r : List Leg, r = (if l.m = m then ls.dropLast else ls) → turnL ls m v = (match r.getLast? with
    | none => r ++ [⟨m, l.at m, v⟩]
    | some l' => if l'.v = v then r else r ++ [⟨m, l.at m, v⟩]) := fun r h => by subst h; unfold turnL; simp only [hl] <;> rfl
  unfold f_l_turned b_l_turned
  refine bodyF_go (by simp; rfl) (by rfl) ?_
  (first | apply seqE | apply seqO); focus (simp (disch := first | assumption | omega) [decT, decF]; rfl)
  (first | apply seqE | apply seqO); focus (simp (disch := first | assumption | omega) [decT, decF, legs_at, hl]; rfl)
  (first | apply seqE | apply seqO); focus (simp (disch := first | assumption | omega) [decT, decF, hp]; rfl)
  have tail : ∀ r : List Leg, r.length < 100000 → r = (if l.m = m then ls.dropLast else ls) → endF [] (seqS (klS [5] (ifS (qT (orT (cm2 eqR (op1 lenV (varC 3)) (vD (cstC (.int 0)))) (cm2 neR (subC (subC (varC 3) (dtV (op1 negR (vD (cstC (.int 1)))))) (cstC (.int 2))) (varC 2)))) (exprS (lmE appF (varP 3) (consD (tupC (consD (dtA (varC 1)) (consD (dtA (varC 5)) (consD (dtA (varC 2)) nilD)))) nilD))) nilS)) (retS (mvE 3)) [.bo (.da (.list (legsD ls))), .bo (.da (qD m)), .bo (.da (.int v)), .ow (.lst (legsD r)), .un, .ow (.da (qD (l.at m)))]) = some (.ok (.lst (legsD (turnL ls m v))) []) := fun r hr he => by
    rw [e1 r he]
    cases hg : r.getLast? with
    | none =>
      have : r = [] := by simpa using hg
      subst this
      (simp (disch := first | assumption | omega) [decT, decF, legs_len, app_legs])
    | some l' =>
      have := len_last hg
      have h0 : r ≠ [] := fun z => by subst z; simp at hg
      by_cases hv : l'.v = v <;> (simp (disch := first | assumption | omega) [decT, decF, legs_len, app_legs, h0, legs_at, hg, hv])
  by_cases hm : l.m = m
  · (first | apply seqE | apply seqO); focus (simp (disch := first | assumption | omega) [decT, decF, hm, pp]; rfl)
    exact tail _ (by rw [List.length_dropLast]; omega) (by rw [if_pos hm])
  · (first | apply seqE | apply seqO); focus (simp (disch := first | assumption | omega) [decT, decF, hm]; rfl)
    exact tail _ hn (by rw [if_neg hm])
theorem forA_eq {i : Nat} {b : FS} (σ : Nat → En) (n : Nat) (hl : ∀ k, i < (σ k).length) (st : ∀ k, k < n → b (put (σ k) i (.ow (.da (.int (k : Int))))) = some (.nx (σ (k + 1))) ∨ b (put (σ k) i (.ow (.da (.int (k : Int))))) = some (.ct (σ (k + 1)))) : forL i b (rngA 0 n) (σ 0) = some (.nx (σ n)) := by
  obtain ⟨ρ', e, h⟩ := forA_inv (i := i) (b := b) (fun k ρ => ρ = σ k) n (σ 0) rfl (fun k ρ hk h => by subst h; exact ⟨hl k, σ (k + 1), st k hk, rfl⟩)
  rw [e, h]
/-- rows that are as they are due -/
theorem f_legrows_eq {ls : List Leg} (hn : ls.length ≤ 1000000) : f_l_legrows [.da (.list (legsD ls)), .da (.list (legsD ls))] = some (.ok (.da (.bool true)) []) := by
  have lp := forA_eq (i := 2) (b := w_l_legrows_0) (fun _ => [.bo (.da (.list (legsD ls))), .bo (.da (.list (legsD ls))), .un, .un]) ls.length (fun _ => by simp) fun k hk => .inl (by
    have hx : (legsD ls)[k]? = some (ls[k]).d := by unfold legsD; simp [hk]
    generalize ls[k] = l at hx
    have e3 : eqR (.da l.d) (.da l.d) = some true := by rw [show l.d = legD l.m l.p l.v from rfl, ev_eqLeg]; simp
    simp [w_l_legrows_0, atI_nat, hx, show isiR "tuple" (.da l.d) = some (.da (.bool true)) from ev_isiT _, show lenV (.da l.d) = some (.da (.int 3)) from rfl, e3])
  simp [f_l_legrows, b_l_legrows, legs_len, forN_n (show ls.length ≤ 1000000000 by omega), lp]
end Sm

set_option exponentiation.threshold 20000
namespace Sm
open PySem L2 Cg
/-! ### comprehensions -/
@[simp] theorem ev_lcC (i : Nat) (si : En → Option (List PyData)) (t : En → Option Bool) (sd : FD) (ρ : En) : lcC i si t sd ρ = (match si ρ with
  | some ds => if ds.length ≤ 100000 ∧ i < ρ.length then (lcL i t sd ρ ds).map fun es => .ok (.lst es) else none
  | none => none) := rfl
@[simp] theorem ev_lcL0 (i : Nat) (t : En → Option Bool) (sd : FD) (ρ : En) : lcL i t sd ρ [] = some [] := rfl
theorem ev_lcL1 (i : Nat) (t : En → Option Bool) (sd : FD) (ρ : En) (d : PyData) (ds : List PyData) : lcL i t sd ρ (d :: ds) = (match t (put ρ i (.ow (.da d))) with
  | some true => (match okk (sd (put ρ i (.ow (.da d)))), lcL i t sd ρ ds with
    | some y, some ys => some (y :: ys)
    | _, _ => none)
  | some false => lcL i t sd ρ ds
  | none => none) := by rw [lcL] <;> rfl
@[simp] theorem ev_yesT (ρ : En) : yesT ρ = some true := rfl
@[simp] theorem ev_itAl (ds : List PyData) : itA (.lst ds) = some ds := rfl
@[simp] theorem ev_itAd (ds : List PyData) : itA (.da (.list ds)) = some ds := rfl
/-- a comprehension over all, by what it gives of each -/
theorem lcL_map {i : Nat} {sd : FD} {ρ : En} (f : PyData → PyData) : ∀ ds : List PyData, (∀ d ∈ ds, sd (put ρ i (.ow (.da d))) = some (.ok (f d))) → lcL i yesT sd ρ ds = some (ds.map f)
  | [], _ => rfl
  | d :: ds, h => by
    rw [ev_lcL1]
    simp only [ev_yesT, h d (by simp), lcL_map f ds fun d' m => h d' (by simp [m]), ev_okk, List.map_cons]
theorem lcL_filter {i : Nat} {t : En → Option Bool} {sd : FD} {ρ : En} (p : PyData → Bool) (f : PyData → PyData) : ∀ ds : List PyData, (∀ d ∈ ds, t (put ρ i (.ow (.da d))) = some (p d) ∧ sd (put ρ i (.ow (.da d))) = some (.ok (f d))) → lcL i t sd ρ ds = some ((ds.filter p).map f)
  | [], _ => rfl
  | d :: ds, h => by
    obtain ⟨h1, h2⟩ := h d (by simp)
    rw [ev_lcL1]
    simp only [h1]
    cases hp : p d with
    | true => simp only [h2, ev_okk, lcL_filter p f ds fun d' m => h d' (by simp [m]), List.filter_cons, hp, if_true, List.map_cons]
    | false => simp only [lcL_filter p f ds fun d' m => h d' (by simp [m]), List.filter_cons, hp, Bool.false_eq_true, if_false]
theorem ev_addL {x y : Rs} {a b : List PyData} (hx : asL x = some a) (hy : asL y = some b) (h : a.length + b.length ≤ 1000000) : addR x y = some (.lst (a ++ b)) := by
  have hz : a.length + b.length ≤ sizeLine := by unfold sizeLine; omega
  cases x with
  | lst ds =>
    cases hx
    cases y with
    | lst es => cases hy; simp only [addR, asL]; exact if_pos hz
    | da d =>
      cases d with
      | list es => cases hy; simp only [addR, asL]; exact if_pos hz
      | _ => cases hy
    | _ => cases hy
  | da d =>
    cases d with
    | list ds =>
      cases hx
      cases y with
      | lst es => cases hy; simp only [addR, asL]; exact if_pos hz
      | da d =>
        cases d with
        | list es => cases hy; simp only [addR, asL]; exact if_pos hz
        | _ => cases hy
      | _ => cases hy
    | _ => cases hx
  | _ => cases hx
@[simp] theorem ev_addLL {a b : List PyData} (h : a.length + b.length ≤ 1000000) : addR (.lst a) (.lst b) = some (.lst (a ++ b)) := ev_addL rfl rfl h
@[simp] theorem ev_addDD {a b : List PyData} (h : a.length + b.length ≤ 1000000) : addR (.da (.list a)) (.da (.list b)) = some (.lst (a ++ b)) := ev_addL rfl rfl h
@[simp] theorem ev_addLD {a b : List PyData} (h : a.length + b.length ≤ 1000000) : addR (.lst a) (.da (.list b)) = some (.lst (a ++ b)) := ev_addL rfl rfl h
@[simp] theorem ev_addDL {a b : List PyData} (h : a.length + b.length ≤ 1000000) : addR (.da (.list a)) (.lst b) = some (.lst (a ++ b)) := ev_addL rfl rfl h
/-! ### the same twice -/
def Shp (n : Nat) (d : PyData) : Prop := d.canLay0 = true ∧ d.depth ≤ n
theorem canAll_of : ∀ {ds : List PyData}, (∀ d ∈ ds, d.canLay0 = true) → PyData.canLayAll0 ds = true
  | [], _ => by simp [PyData.canLayAll0]
  | d :: ds, h => by
    have h2 := canAll_of (ds := ds) fun d' m => h d' (by simp [m])
    simp [PyData.canLayAll0, h d (by simp), h2]
theorem depAll_of {n : Nat} : ∀ {ds : List PyData}, (∀ d ∈ ds, d.depth ≤ n) → PyData.depthAll ds ≤ n
  | [], _ => by simp [PyData.depthAll]
  | d :: ds, h => by
    have h1 := h d (by simp)
    have h2 := depAll_of (ds := ds) fun d' m => h d' (by simp [m])
    simp only [PyData.depthAll]; omega
theorem shp_list {n : Nat} {ds : List PyData} (h : ∀ d ∈ ds, Shp n d) : Shp (n + 1) (.list ds) := by
  refine ⟨by simp only [PyData.canLay0]; exact canAll_of fun d m => (h d m).1, ?_⟩
  have := depAll_of (n := n) fun d m => (h d m).2
  simp only [PyData.depth]; omega
theorem shp_tup {n : Nat} {ds : List PyData} (h : ∀ d ∈ ds, Shp n d) : Shp (n + 1) (.tuple ds) := by
  refine ⟨by simp only [PyData.canLay0]; exact canAll_of fun d m => (h d m).1, ?_⟩
  have := depAll_of (n := n) fun d m => (h d m).2
  simp only [PyData.depth]; omega
theorem shp_int (i : Int) : Shp 1 (.int i) := ⟨rfl, by simp [PyData.depth]⟩
theorem shp_str {i : Str} (h : PyData.strOk i = true) : Shp 1 (.str i) := ⟨by simp only [PyData.canLay0]; exact h, by simp [PyData.depth]⟩
theorem shp_bool (i : Bool) : Shp 1 (.bool i) := ⟨rfl, by simp [PyData.depth]⟩
theorem shp_none : Shp 1 .none := ⟨rfl, by simp [PyData.depth]⟩
theorem Shp.mono {n m : Nat} {d : PyData} (h : Shp n d) (hm : n ≤ m) : Shp m d := ⟨h.1, by have := h.2; omega⟩
theorem shp_qD (q : Rat) : Shp 2 (qD q) := shp_tup (by simp; exact ⟨shp_int _, shp_int _⟩)
theorem shp_leg (l : Leg) : Shp 3 l.d := shp_tup (by simp; exact ⟨shp_qD _, shp_qD _, (shp_int _).mono (by decide)⟩)
theorem shp_ok {n : Nat} {d : PyData} (h : Shp n d) (hn : n ≤ 64) : SeqAt.shaped d = true := by
  unfold SeqAt.shaped
  rw [h.1, Bool.true_and]
  exact decide_eq_true (by have := h.2; omega)
theorem eqR_self {x y : Rs} {d : PyData} {n : Nat} (hx : asDD x = some d) (hy : asDD y = some d) (h : Shp n d) (hn : n ≤ 64) : eqR x y = some true := by
  unfold eqR
  rw [hx, hy]
  simp only [shp_ok h hn, Bool.and_self, if_true]
  rw [PySem.SeqAt.eqv_refl d h.1]
end Sm

set_option exponentiation.threshold 20000
namespace Sm
open PySem L2 Cg
theorem eqStr {a b : Str} (ha : PyData.strOk a = true) (hb : PyData.strOk b = true) : eqR (.da (.str a)) (.da (.str b)) = some (decide (a = b)) := by
  unfold eqR asDD
  simp only [shp_ok (shp_str ha) (by decide), shp_ok (shp_str hb) (by decide), Bool.and_self, if_true]
  first | rfl | simp [PyData.eqv]
@[simp] theorem ev_isiBb (b : Bool) : isiR "bool" (.da (.bool b)) = some (.da (.bool true)) := by simp [isiR, tynR, k_bool_bool]
@[simp] theorem ev_eqB (a b : Bool) : eqR (.da (.bool a)) (.da (.bool b)) = some (a == b) := by
  unfold eqR asDD
  simp only [shp_ok (shp_bool a) (by decide), shp_ok (shp_bool b) (by decide), Bool.and_self, if_true]
  first | rfl | simp [PyData.eqv]
theorem exN_ok : ∀ c ∈ exN, PyData.strOk c = true := by decide +kernel
@[simp] theorem mem_exN_BadName : ("BadName" : Str) ∈ exN := by decide +kernel
@[simp] theorem mem_exN_Taken : ("Taken" : Str) ∈ exN := by decide +kernel
@[simp] theorem mem_exN_Full : ("Full" : Str) ∈ exN := by decide +kernel
@[simp] theorem mem_exN_NoCraft : ("NoCraft" : Str) ∈ exN := by decide +kernel
@[simp] theorem mem_exN_TooFar : ("TooFar" : Str) ∈ exN := by decide +kernel
@[simp] theorem mem_exN_BadMoment : ("BadMoment" : Str) ∈ exN := by decide +kernel
@[simp] theorem mem_exN_Past : ("Past" : Str) ∈ exN := by decide +kernel
@[simp] theorem mem_exN_NotThere : ("NotThere" : Str) ∈ exN := by decide +kernel
@[simp] theorem mem_exN_NoWatch : ("NoWatch" : Str) ∈ exN := by decide +kernel
@[simp] theorem mem_exN_NoTale : ("NoTale" : Str) ∈ exN := by decide +kernel
theorem eqRD {d : PyData} {n : Nat} (h : Shp n d) (hn : n ≤ 64) : eqR (.da d) (.da d) = some true := eqR_self rfl rfl h hn
theorem eqRL {d : List PyData} {n : Nat} (h : Shp n (.list d)) (hn : n ≤ 64) : eqR (.lst d) (.lst d) = some true := eqR_self rfl rfl h hn
theorem shp_fls (c : Str) : Shp 2 (.list (fls exN c)) := shp_list fun d hd => by
  simp [fls, exN] at hd
  rcases hd with rfl | h
  · exact shp_bool _
  · rcases h with rfl | rfl | rfl | rfl | rfl | rfl | rfl | rfl | rfl | rfl <;> exact shp_bool _
@[simp] theorem eq_fls (c : Str) : eqR (.da (.list (fls exN c))) (.da (.list (fls exN c))) = some true := eqRD (shp_fls c) (by decide)
theorem nil_ok : PyData.strOk "" = true := by decide +kernel
theorem f_flags_eq {c : Str} (hc : PyData.strOk c = true) : f_l_flags [.da (.str c)] = some (.ok (.lst (if c = "" then [] else fls exN c)) []) := by
  unfold f_l_flags b_l_flags
  refine bodyF_go (by simp; rfl) (by rfl) ?_
  (first | apply seqE | apply seqO); focus (simp (disch := first | assumption | omega) [decT, decF]; rfl)
  by_cases h : c = ""
  · subst h; simp [eqStr nil_ok nil_ok]
  · (first | apply seqE | apply seqO); focus (simp (disch := first | assumption | omega) [decT, decF, eqStr hc nil_ok, h]; rfl)
    have e : ∀ d ∈ exN.map PyData.str, (fun ρ => dtV (bV (cm2 eqR (varC 2) (varC 0))) ρ) (put [.bo (.da (.str c)), .ow (.da (.list (exN.map PyData.str))), .un] 2 (.ow (.da d))) = some (.ok ((fun d => match d with
      | .str z => .bool (decide (z = c))
      | _ => .none) d)) := fun d hd => by
      obtain ⟨z, hz, rfl⟩ := List.mem_map.mp hd
      simp [eqStr (exN_ok z hz) hc]
    have := lcL_map (i := 2) (ρ := [.bo (.da (.str c)), .ow (.da (.list (exN.map PyData.str))), .un]) _ _ e
    simp only [exN, List.map_cons, List.map_nil] at this
    simp [this, h, fls, exN, eq_comm]
end Sm

set_option exponentiation.threshold 20000
/-! Rows of digits, one lemma a length (written by a script); cells; small products. -/
namespace Sm
open PySem L2 Cg
theorem dig1 (c : Int) {t0 : Int} (h : ∀ t ∈ [t0], 0 < t ∧ t.natAbs < 2 ^ 200) : ∃ r0 : Int, f_l_digits [.da (.int c), .da (.list [.int t0])] = some (.ok (.lst [.int r0]) []) ∧ 0 ≤ r0 ∧ r0 < t0 := by
  have hd := f_digits_eq c [t0] h (by simp)
  have hb := digits_below c [t0] fun t m => (h t m).1
  generalize digits c [t0] = row at hb hd
  obtain ⟨r0, _, rfl, hr0a, hr0b, hb⟩ := below_cons hb
  cases below_nil hb
  exact ⟨r0, hd, hr0a, hr0b⟩
theorem dig2 (c : Int) {t0 t1 : Int} (h : ∀ t ∈ [t0, t1], 0 < t ∧ t.natAbs < 2 ^ 200) : ∃ r0 r1, f_l_digits [.da (.int c), .da (.list [.int t0, .int t1])] = some (.ok (.lst [.int r0, .int r1]) []) ∧ 0 ≤ r0 ∧ r0 < t0 ∧ 0 ≤ r1 ∧ r1 < t1 := by
  have hd := f_digits_eq c [t0, t1] h (by simp)
  have hb := digits_below c [t0, t1] fun t m => (h t m).1
  generalize digits c [t0, t1] = row at hb hd
  obtain ⟨r0, _, rfl, hr0a, hr0b, hb⟩ := below_cons hb
  obtain ⟨r1, _, rfl, hr1a, hr1b, hb⟩ := below_cons hb
  cases below_nil hb
  exact ⟨r0, r1, hd, hr0a, hr0b, hr1a, hr1b⟩
theorem dig3 (c : Int) {t0 t1 t2 : Int} (h : ∀ t ∈ [t0, t1, t2], 0 < t ∧ t.natAbs < 2 ^ 200) : ∃ r0 r1 r2, f_l_digits [.da (.int c), .da (.list [.int t0, .int t1, .int t2])] = some (.ok (.lst [.int r0, .int r1, .int r2]) []) ∧ 0 ≤ r0 ∧ r0 < t0 ∧ 0 ≤ r1 ∧ r1 < t1 ∧ 0 ≤ r2 ∧ r2 < t2 := by
  have hd := f_digits_eq c [t0, t1, t2] h (by simp)
  have hb := digits_below c [t0, t1, t2] fun t m => (h t m).1
  generalize digits c [t0, t1, t2] = row at hb hd
  obtain ⟨r0, _, rfl, hr0a, hr0b, hb⟩ := below_cons hb
  obtain ⟨r1, _, rfl, hr1a, hr1b, hb⟩ := below_cons hb
  obtain ⟨r2, _, rfl, hr2a, hr2b, hb⟩ := below_cons hb
  cases below_nil hb
  exact ⟨r0, r1, r2, hd, hr0a, hr0b, hr1a, hr1b, hr2a, hr2b⟩
theorem dig4 (c : Int) {t0 t1 t2 t3 : Int} (h : ∀ t ∈ [t0, t1, t2, t3], 0 < t ∧ t.natAbs < 2 ^ 200) : ∃ r0 r1 r2 r3, f_l_digits [.da (.int c), .da (.list [.int t0, .int t1, .int t2, .int t3])] = some (.ok (.lst [.int r0, .int r1, .int r2, .int r3]) []) ∧ 0 ≤ r0 ∧ r0 < t0 ∧ 0 ≤ r1 ∧ r1 < t1 ∧ 0 ≤ r2 ∧ r2 < t2 ∧ 0 ≤ r3 ∧ r3 < t3 := by
  have hd := f_digits_eq c [t0, t1, t2, t3] h (by simp)
  have hb := digits_below c [t0, t1, t2, t3] fun t m => (h t m).1
  generalize digits c [t0, t1, t2, t3] = row at hb hd
  obtain ⟨r0, _, rfl, hr0a, hr0b, hb⟩ := below_cons hb
  obtain ⟨r1, _, rfl, hr1a, hr1b, hb⟩ := below_cons hb
  obtain ⟨r2, _, rfl, hr2a, hr2b, hb⟩ := below_cons hb
  obtain ⟨r3, _, rfl, hr3a, hr3b, hb⟩ := below_cons hb
  cases below_nil hb
  exact ⟨r0, r1, r2, r3, hd, hr0a, hr0b, hr1a, hr1b, hr2a, hr2b, hr3a, hr3b⟩
theorem dig5 (c : Int) {t0 t1 t2 t3 t4 : Int} (h : ∀ t ∈ [t0, t1, t2, t3, t4], 0 < t ∧ t.natAbs < 2 ^ 200) : ∃ r0 r1 r2 r3 r4, f_l_digits [.da (.int c), .da (.list [.int t0, .int t1, .int t2, .int t3, .int t4])] = some (.ok (.lst [.int r0, .int r1, .int r2, .int r3, .int r4]) []) ∧ 0 ≤ r0 ∧ r0 < t0 ∧ 0 ≤ r1 ∧ r1 < t1 ∧ 0 ≤ r2 ∧ r2 < t2 ∧ 0 ≤ r3 ∧ r3 < t3 ∧ 0 ≤ r4 ∧ r4 < t4 := by
  have hd := f_digits_eq c [t0, t1, t2, t3, t4] h (by simp)
  have hb := digits_below c [t0, t1, t2, t3, t4] fun t m => (h t m).1
  generalize digits c [t0, t1, t2, t3, t4] = row at hb hd
  obtain ⟨r0, _, rfl, hr0a, hr0b, hb⟩ := below_cons hb
  obtain ⟨r1, _, rfl, hr1a, hr1b, hb⟩ := below_cons hb
  obtain ⟨r2, _, rfl, hr2a, hr2b, hb⟩ := below_cons hb
  obtain ⟨r3, _, rfl, hr3a, hr3b, hb⟩ := below_cons hb
  obtain ⟨r4, _, rfl, hr4a, hr4b, hb⟩ := below_cons hb
  cases below_nil hb
  exact ⟨r0, r1, r2, r3, r4, hd, hr0a, hr0b, hr1a, hr1b, hr2a, hr2b, hr3a, hr3b, hr4a, hr4b⟩
theorem dig6 (c : Int) {t0 t1 t2 t3 t4 t5 : Int} (h : ∀ t ∈ [t0, t1, t2, t3, t4, t5], 0 < t ∧ t.natAbs < 2 ^ 200) : ∃ r0 r1 r2 r3 r4 r5, f_l_digits [.da (.int c), .da (.list [.int t0, .int t1, .int t2, .int t3, .int t4, .int t5])] = some (.ok (.lst [.int r0, .int r1, .int r2, .int r3, .int r4, .int r5]) []) ∧ 0 ≤ r0 ∧ r0 < t0 ∧ 0 ≤ r1 ∧ r1 < t1 ∧ 0 ≤ r2 ∧ r2 < t2 ∧ 0 ≤ r3 ∧ r3 < t3 ∧ 0 ≤ r4 ∧ r4 < t4 ∧ 0 ≤ r5 ∧ r5 < t5 := by
  have hd := f_digits_eq c [t0, t1, t2, t3, t4, t5] h (by simp)
  have hb := digits_below c [t0, t1, t2, t3, t4, t5] fun t m => (h t m).1
  generalize digits c [t0, t1, t2, t3, t4, t5] = row at hb hd
  obtain ⟨r0, _, rfl, hr0a, hr0b, hb⟩ := below_cons hb
  obtain ⟨r1, _, rfl, hr1a, hr1b, hb⟩ := below_cons hb
  obtain ⟨r2, _, rfl, hr2a, hr2b, hb⟩ := below_cons hb
  obtain ⟨r3, _, rfl, hr3a, hr3b, hb⟩ := below_cons hb
  obtain ⟨r4, _, rfl, hr4a, hr4b, hb⟩ := below_cons hb
  obtain ⟨r5, _, rfl, hr5a, hr5b, hb⟩ := below_cons hb
  cases below_nil hb
  exact ⟨r0, r1, r2, r3, r4, r5, hd, hr0a, hr0b, hr1a, hr1b, hr2a, hr2b, hr3a, hr3b, hr4a, hr4b, hr5a, hr5b⟩
theorem dig7 (c : Int) {t0 t1 t2 t3 t4 t5 t6 : Int} (h : ∀ t ∈ [t0, t1, t2, t3, t4, t5, t6], 0 < t ∧ t.natAbs < 2 ^ 200) : ∃ r0 r1 r2 r3 r4 r5 r6, f_l_digits [.da (.int c), .da (.list [.int t0, .int t1, .int t2, .int t3, .int t4, .int t5, .int t6])] = some (.ok (.lst [.int r0, .int r1, .int r2, .int r3, .int r4, .int r5, .int r6]) []) ∧ 0 ≤ r0 ∧ r0 < t0 ∧ 0 ≤ r1 ∧ r1 < t1 ∧ 0 ≤ r2 ∧ r2 < t2 ∧ 0 ≤ r3 ∧ r3 < t3 ∧ 0 ≤ r4 ∧ r4 < t4 ∧ 0 ≤ r5 ∧ r5 < t5 ∧ 0 ≤ r6 ∧ r6 < t6 := by
  have hd := f_digits_eq c [t0, t1, t2, t3, t4, t5, t6] h (by simp)
  have hb := digits_below c [t0, t1, t2, t3, t4, t5, t6] fun t m => (h t m).1
  generalize digits c [t0, t1, t2, t3, t4, t5, t6] = row at hb hd
  obtain ⟨r0, _, rfl, hr0a, hr0b, hb⟩ := below_cons hb
  obtain ⟨r1, _, rfl, hr1a, hr1b, hb⟩ := below_cons hb
  obtain ⟨r2, _, rfl, hr2a, hr2b, hb⟩ := below_cons hb
  obtain ⟨r3, _, rfl, hr3a, hr3b, hb⟩ := below_cons hb
  obtain ⟨r4, _, rfl, hr4a, hr4b, hb⟩ := below_cons hb
  obtain ⟨r5, _, rfl, hr5a, hr5b, hb⟩ := below_cons hb
  obtain ⟨r6, _, rfl, hr6a, hr6b, hb⟩ := below_cons hb
  cases below_nil hb
  exact ⟨r0, r1, r2, r3, r4, r5, r6, hd, hr0a, hr0b, hr1a, hr1b, hr2a, hr2b, hr3a, hr3b, hr4a, hr4b, hr5a, hr5b, hr6a, hr6b⟩
theorem dig8 (c : Int) {t0 t1 t2 t3 t4 t5 t6 t7 : Int} (h : ∀ t ∈ [t0, t1, t2, t3, t4, t5, t6, t7], 0 < t ∧ t.natAbs < 2 ^ 200) : ∃ r0 r1 r2 r3 r4 r5 r6 r7, f_l_digits [.da (.int c), .da (.list [.int t0, .int t1, .int t2, .int t3, .int t4, .int t5, .int t6, .int t7])] = some (.ok (.lst [.int r0, .int r1, .int r2, .int r3, .int r4, .int r5, .int r6, .int r7]) []) ∧ 0 ≤ r0 ∧ r0 < t0 ∧ 0 ≤ r1 ∧ r1 < t1 ∧ 0 ≤ r2 ∧ r2 < t2 ∧ 0 ≤ r3 ∧ r3 < t3 ∧ 0 ≤ r4 ∧ r4 < t4 ∧ 0 ≤ r5 ∧ r5 < t5 ∧ 0 ≤ r6 ∧ r6 < t6 ∧ 0 ≤ r7 ∧ r7 < t7 := by
  have hd := f_digits_eq c [t0, t1, t2, t3, t4, t5, t6, t7] h (by simp)
  have hb := digits_below c [t0, t1, t2, t3, t4, t5, t6, t7] fun t m => (h t m).1
  generalize digits c [t0, t1, t2, t3, t4, t5, t6, t7] = row at hb hd
  obtain ⟨r0, _, rfl, hr0a, hr0b, hb⟩ := below_cons hb
  obtain ⟨r1, _, rfl, hr1a, hr1b, hb⟩ := below_cons hb
  obtain ⟨r2, _, rfl, hr2a, hr2b, hb⟩ := below_cons hb
  obtain ⟨r3, _, rfl, hr3a, hr3b, hb⟩ := below_cons hb
  obtain ⟨r4, _, rfl, hr4a, hr4b, hb⟩ := below_cons hb
  obtain ⟨r5, _, rfl, hr5a, hr5b, hb⟩ := below_cons hb
  obtain ⟨r6, _, rfl, hr6a, hr6b, hb⟩ := below_cons hb
  obtain ⟨r7, _, rfl, hr7a, hr7b, hb⟩ := below_cons hb
  cases below_nil hb
  exact ⟨r0, r1, r2, r3, r4, r5, r6, r7, hd, hr0a, hr0b, hr1a, hr1b, hr2a, hr2b, hr3a, hr3b, hr4a, hr4b, hr5a, hr5b, hr6a, hr6b, hr7a, hr7b⟩
theorem dig12 (c : Int) {t0 t1 t2 t3 t4 t5 t6 t7 t8 t9 t10 t11 : Int} (h : ∀ t ∈ [t0, t1, t2, t3, t4, t5, t6, t7, t8, t9, t10, t11], 0 < t ∧ t.natAbs < 2 ^ 200) : ∃ r0 r1 r2 r3 r4 r5 r6 r7 r8 r9 r10 r11, f_l_digits [.da (.int c), .da (.list [.int t0, .int t1, .int t2, .int t3, .int t4, .int t5, .int t6, .int t7, .int t8, .int t9, .int t10, .int t11])] = some (.ok (.lst [.int r0, .int r1, .int r2, .int r3, .int r4, .int r5, .int r6, .int r7, .int r8, .int r9, .int r10, .int r11]) []) ∧ 0 ≤ r0 ∧ r0 < t0 ∧ 0 ≤ r1 ∧ r1 < t1 ∧ 0 ≤ r2 ∧ r2 < t2 ∧ 0 ≤ r3 ∧ r3 < t3 ∧ 0 ≤ r4 ∧ r4 < t4 ∧ 0 ≤ r5 ∧ r5 < t5 ∧ 0 ≤ r6 ∧ r6 < t6 ∧ 0 ≤ r7 ∧ r7 < t7 ∧ 0 ≤ r8 ∧ r8 < t8 ∧ 0 ≤ r9 ∧ r9 < t9 ∧ 0 ≤ r10 ∧ r10 < t10 ∧ 0 ≤ r11 ∧ r11 < t11 := by
  have hd := f_digits_eq c [t0, t1, t2, t3, t4, t5, t6, t7, t8, t9, t10, t11] h (by simp)
  have hb := digits_below c [t0, t1, t2, t3, t4, t5, t6, t7, t8, t9, t10, t11] fun t m => (h t m).1
  generalize digits c [t0, t1, t2, t3, t4, t5, t6, t7, t8, t9, t10, t11] = row at hb hd
  obtain ⟨r0, _, rfl, hr0a, hr0b, hb⟩ := below_cons hb
  obtain ⟨r1, _, rfl, hr1a, hr1b, hb⟩ := below_cons hb
  obtain ⟨r2, _, rfl, hr2a, hr2b, hb⟩ := below_cons hb
  obtain ⟨r3, _, rfl, hr3a, hr3b, hb⟩ := below_cons hb
  obtain ⟨r4, _, rfl, hr4a, hr4b, hb⟩ := below_cons hb
  obtain ⟨r5, _, rfl, hr5a, hr5b, hb⟩ := below_cons hb
  obtain ⟨r6, _, rfl, hr6a, hr6b, hb⟩ := below_cons hb
  obtain ⟨r7, _, rfl, hr7a, hr7b, hb⟩ := below_cons hb
  obtain ⟨r8, _, rfl, hr8a, hr8b, hb⟩ := below_cons hb
  obtain ⟨r9, _, rfl, hr9a, hr9b, hb⟩ := below_cons hb
  obtain ⟨r10, _, rfl, hr10a, hr10b, hb⟩ := below_cons hb
  obtain ⟨r11, _, rfl, hr11a, hr11b, hb⟩ := below_cons hb
  cases below_nil hb
  exact ⟨r0, r1, r2, r3, r4, r5, r6, r7, r8, r9, r10, r11, hd, hr0a, hr0b, hr1a, hr1b, hr2a, hr2b, hr3a, hr3b, hr4a, hr4b, hr5a, hr5b, hr6a, hr6b, hr7a, hr7b, hr8a, hr8b, hr9a, hr9b, hr10a, hr10b, hr11a, hr11b⟩
theorem f_cellI (ns : List Int) {k : Int} (h0 : 0 ≤ k) (h1 : k < 1000000) : f_l_cell [.scr ns, .da (.int k)] = some (.ok (.da (.int (cell ns k.toNat))) []) := by
  have := f_cell_eq ns k.toNat (by omega)
  rw [show ((k.toNat : Nat) : Int) = k by omega] at this
  exact this
theorem mulS {i j : Int} (h1 : -18446744073709551616 < i) (h2 : i < 18446744073709551616) (h3 : -18446744073709551616 < j) (h4 : j < 18446744073709551616) : mulR (.da (.int i)) (.da (.int j)) = some (.da (.int (i * j))) :=
  ev_mulI (cmul_of (n := 64) (m := 64) (by omega) (by omega) (by decide))
theorem divS {i j : Int} (h3 : 0 < j) (h4 : j < 18446744073709551616) : divI (.da (.int i)) (.da (.int j)) = some (.da (.int (i / j))) :=
  ev_divI (cdiv_of (m := 64) h3 (by omega) (by decide))
theorem modS {i j : Int} (h3 : 0 < j) : modI (.da (.int i)) (.da (.int j)) = some (.da (.int (i % j))) := ev_modI h3
end Sm

set_option exponentiation.threshold 20000
namespace Sm
open PySem L2 Cg
/-! ### divisors -/
def L60 : Int := 9690712164777231700912800
def Dv (D : Int) (q : Rat) : Prop := ∃ z : Int, q * (D : Rat) = (z : Rat)
theorem Dv.add {D : Int} {p q : Rat} (hp : Dv D p) (hq : Dv D q) : Dv D (p + q) := by
  obtain ⟨a, ha⟩ := hp; obtain ⟨b, hb⟩ := hq
  exact ⟨a + b, by rw [Rat.intCast_add]; grind⟩
theorem Dv.sub {D : Int} {p q : Rat} (hp : Dv D p) (hq : Dv D q) : Dv D (p - q) := by
  obtain ⟨a, ha⟩ := hp; obtain ⟨b, hb⟩ := hq
  exact ⟨a - b, by rw [Rat.intCast_sub]; grind⟩
theorem Dv.muli {D : Int} {p : Rat} (hp : Dv D p) (k : Int) : Dv D (p * k) := by
  obtain ⟨a, ha⟩ := hp
  exact ⟨a * k, by rw [Rat.intCast_mul]; grind⟩
theorem Dv.scale {D : Int} {p : Rat} (hp : Dv D p) (k : Int) : Dv (D * k) p := by
  obtain ⟨a, ha⟩ := hp
  exact ⟨a * k, by rw [Rat.intCast_mul, Rat.intCast_mul]; grind⟩
theorem Dv.int (D k : Int) : Dv D (k : Rat) := ⟨k * D, by rw [Rat.intCast_mul]⟩
theorem dv_of {D : Int} {q : Rat} (h : (q.den : Int) ∣ D) : Dv D q := by
  obtain ⟨k, rfl⟩ := h
  refine ⟨q.num * k, ?_⟩
  have h1 := rat_eq q
  have h2 := den_ne q
  rw [Rat.intCast_mul, Rat.intCast_mul]
  generalize ((q.den : Int) : Rat) = d at *
  generalize (q.num : Rat) = n at *
  grind
theorem den_dv {D : Int} {q : Rat} (hD : 0 < D) (h : Dv D q) : q.den ≤ D.natAbs := by
  obtain ⟨z, hz⟩ := h
  have hne : (D : Rat) ≠ 0 := by
    intro h
    have : D = 0 := by exact_mod_cast h
    omega
  have e : q = (z : Rat) / (D : Rat) := by grind
  have := den_div_le (a := z) hD
  rw [← e] at this
  omega
theorem all60 : ∀ d : Fin 61, d.val ≠ 0 → ((d.val : Int)) ∣ L60 := by decide +kernel
theorem dv60 {q : Rat} (h : q.den ≤ 60) : Dv L60 q := dv_of (all60 ⟨q.den, by omega⟩ q.den_nz)
theorem dv_sz {D B : Int} {q : Rat} {a b : Nat} (hD : 0 < D) (hDa : D.natAbs < 2 ^ a) (hq : Dv D q) (h1 : -(B : Rat) ≤ q) (h2 : q ≤ (B : Rat)) (hB : B.natAbs < 2 ^ b) : Sz (a + b) q := by
  have hd := den_dv hD hq
  have hp := den_pos q
  have e : q = (q.num : Rat) / ((q.den : Int) : Rat) := rat_eq q
  have a1 : q.num ≤ B * q.den := by
    rw [e] at h2
    have : ¬ (B : Rat) < (q.num : Rat) / ((q.den : Int) : Rat) := Rat.not_lt.mpr h2
    rw [Rat.lt_div_iff (int_pos hp)] at this
    have z : ¬ B * q.den < q.num := fun z => this (by exact_mod_cast z)
    omega
  have a2 : -(B * q.den) ≤ q.num := by
    rw [e] at h1
    have : ¬ (q.num : Rat) / ((q.den : Int) : Rat) < -(B : Rat) := Rat.not_lt.mpr h1
    rw [Rat.div_lt_iff (int_pos hp)] at this
    have z : ¬ q.num < -B * q.den := fun z => this (by exact_mod_cast z)
    rw [Int.neg_mul] at z
    omega
  have a3 : (B * (q.den : Int)).natAbs < 2 ^ (a + b) := by
    rw [Nat.add_comm]
    exact nlt_mul hB (Nat.lt_of_le_of_lt (by simpa using hd) hDa)
  refine ⟨by omega, ?_⟩
  have : 2 ^ a ≤ 2 ^ (a + b) := Nat.pow_le_pow_right (by decide) (by omega)
  omega
/-! ### which is less -/
theorem f_less_eq {p q : Rat} {n m : Nat} (hp : Sz n p) (hq : Sz m q) (hs : n + m ≤ 8000) : f_less [.da (qD p), .da (qD q)] = some (.ok (.da (.bool (decide (p < q)))) []) := by
  have e : decide (p.num * q.den < q.num * p.den) = decide (p < q) := by rw [decide_eq_decide]; exact (Rat.lt_iff p q).symm
  simp [f_less, b_less, ev_mulI (cmul_of hp.num hq.den (by omega)), ev_mulI (cmul_of hq.num hp.den (by omega)), e]
/-! ### searching by halves -/
theorem bisA_go {t : En → Option Bool} {b : FS} {σ : Nat → Nat → En} {P : Nat → Bool} {k n : Nat} (h1 : ∀ i, i < k → P i = true) (h2 : ∀ i, k ≤ i → i < n → P i = false) (ht : ∀ lo hi, lo ≤ hi → hi ≤ n → t (σ lo hi) = some (decide (lo < hi)))
    (hb : ∀ lo hi, lo < hi → hi ≤ n → b (σ lo hi) = some (.nx (if P ((lo + hi) / 2) then σ ((lo + hi) / 2 + 1) hi else σ lo ((lo + hi) / 2)))) : ∀ (f lo hi : Nat), hi - lo ≤ f → lo ≤ k → k ≤ hi → hi ≤ n → whileS t b (σ lo hi) = some (.nx (σ k k))
  | 0, lo, hi, hf, a, c, d => by
    have : lo = k := by omega
    have : hi = k := by omega
    subst lo; subst hi
    exact whileS_false (by rw [ht _ _ (Nat.le_refl _) d]; simp)
  | f + 1, lo, hi, hf, a, c, d => by
    by_cases hl : lo < hi
    · refine whileS_true (by rw [ht _ _ (by omega) d]; simp [hl]) (hb lo hi hl d) ?_
      by_cases hp : (lo + hi) / 2 < k
      · rw [if_pos (h1 _ hp)]
        exact bisA_go h1 h2 ht hb f _ _ (by omega) (by omega) c d
      · rw [if_neg (by rw [h2 _ (by omega) (by omega)]; decide)]
        exact bisA_go h1 h2 ht hb f _ _ (by omega) a (by omega) (by omega)
    · have : lo = k := by omega
      have : hi = k := by omega
      subst lo; subst hi
      exact whileS_false (by rw [ht _ _ (Nat.le_refl _) d]; simp)
theorem bisA {t : En → Option Bool} {b : FS} (σ : Nat → Nat → En) (P : Nat → Bool) (k n : Nat) (hk : k ≤ n) (h1 : ∀ i, i < k → P i = true) (h2 : ∀ i, k ≤ i → i < n → P i = false) (ht : ∀ lo hi, lo ≤ hi → hi ≤ n → t (σ lo hi) = some (decide (lo < hi)))
    (hb : ∀ lo hi, lo < hi → hi ≤ n → b (σ lo hi) = some (.nx (if P ((lo + hi) / 2) then σ ((lo + hi) / 2 + 1) hi else σ lo ((lo + hi) / 2)))) : whileS t b (σ 0 n) = some (.nx (σ k k)) :=
  bisA_go h1 h2 ht hb n 0 n (by omega) (by omega) hk (Nat.le_refl _)
theorem bisB_go {t : En → Option Bool} {b : FS} {σ : Nat → Nat → En} {P : Nat → Bool} {k n : Nat} (h1 : ∀ i, i ≤ k → P i = false) (h2 : ∀ i, k < i → i ≤ n → P i = true) (ht : ∀ lo hi, lo ≤ hi → hi ≤ n → t (σ lo hi) = some (decide (lo < hi)))
    (hb : ∀ lo hi, lo < hi → hi ≤ n → b (σ lo hi) = some (.nx (if P ((lo + hi + 1) / 2) then σ lo ((lo + hi + 1) / 2 - 1) else σ ((lo + hi + 1) / 2) hi))) : ∀ (f lo hi : Nat), hi - lo ≤ f → lo ≤ k → k ≤ hi → hi ≤ n → whileS t b (σ lo hi) = some (.nx (σ k k))
  | 0, lo, hi, hf, a, c, d => by
    have : lo = k := by omega
    have : hi = k := by omega
    subst lo; subst hi
    exact whileS_false (by rw [ht _ _ (Nat.le_refl _) d]; simp)
  | f + 1, lo, hi, hf, a, c, d => by
    by_cases hl : lo < hi
    · refine whileS_true (by rw [ht _ _ (by omega) d]; simp [hl]) (hb lo hi hl d) ?_
      by_cases hp : (lo + hi + 1) / 2 ≤ k
      · rw [if_neg (by rw [h1 _ hp]; decide)]
        exact bisB_go h1 h2 ht hb f _ _ (by omega) hp c d
      · rw [if_pos (h2 _ (by omega) (by omega))]
        exact bisB_go h1 h2 ht hb f _ _ (by omega) a (by omega) (by omega)
    · have : lo = k := by omega
      have : hi = k := by omega
      subst lo; subst hi
      exact whileS_false (by rw [ht _ _ (Nat.le_refl _) d]; simp)
theorem bisB {t : En → Option Bool} {b : FS} (σ : Nat → Nat → En) (P : Nat → Bool) (k n : Nat) (hk : k ≤ n) (h1 : ∀ i, i ≤ k → P i = false) (h2 : ∀ i, k < i → i ≤ n → P i = true) (ht : ∀ lo hi, lo ≤ hi → hi ≤ n → t (σ lo hi) = some (decide (lo < hi)))
    (hb : ∀ lo hi, lo < hi → hi ≤ n → b (σ lo hi) = some (.nx (if P ((lo + hi + 1) / 2) then σ lo ((lo + hi + 1) / 2 - 1) else σ ((lo + hi + 1) / 2) hi))) : whileS t b (σ 0 n) = some (.nx (σ k k)) :=
  bisB_go h1 h2 ht hb n 0 n (by omega) (by omega) hk (Nat.le_refl _)
/-! ### logs, asked -/
structure Lg (l : Leg) : Prop where
  m : Sz 40 l.m
  p : Sz 300 l.p
  v : l.v.natAbs < 2 ^ 10
def endD : Option Rat → PyData
  | none => .none
  | some q => qD q
@[simp] theorem ev_endN : endD none = .none := rfl
@[simp] theorem ev_endS (q : Rat) : endD (some q) = qD q := rfl
def thereL (ls : List Leg) (e : Option Rat) (m : Rat) : Bool := match ls with
  | [] => false
  | l :: _ => decide (l.m ≤ m) && (match e with
    | none => true
    | some q => decide (m < q))
theorem legs_get (ls : List Leg) (i : Nat) : atI (legsD ls) ((i : Nat) : Int) = ls[i]?.map Leg.d := by
  rw [atI_nat]; unfold legsD; rw [List.getElem?_map]
theorem legs_get0 (l : Leg) (ls : List Leg) : atI (legsD (l :: ls)) 0 = some l.d := legs_get (l :: ls) 0
theorem f_Log_there_eq {l : Leg} {ls : List Leg} {e : Option Rat} {m : Rat} (hl : Sz 1000 l.m) (hm : Sz 1000 m) (he : ∀ q, e = some q → Sz 1000 q) : f_Log_there [logR (l :: ls) (endD e), .da (qD m)] = some (.ok (.da (.bool (thereL (l :: ls) e m))) []) := by
  have h1 := f_less_eq hm hl (by decide)
  by_cases h : m < l.m
  · have : ¬ l.m ≤ m := Rat.not_le.mpr h
    simp [f_Log_there, b_Log_there, legs_get0, h1, h, thereL, this]
  · have h2 : l.m ≤ m := Rat.not_lt.mp h
    cases e with
    | none => simp [f_Log_there, b_Log_there, legs_get0, h1, h, thereL, h2]
    | some q => simp [f_Log_there, b_Log_there, legs_get0, h1, h, thereL, h2, f_less_eq hm (he q rfl) (by decide)]
/-- the leg that holds -/
def heldL (ls : List Leg) (m : Rat) : Option Leg := (ls.filter fun l => decide (l.m ≤ m)).getLast?
def SortL (ls : List Leg) : Prop := ls.Pairwise fun a b => a.m < b.m
theorem sort_le {ls : List Leg} (h : SortL ls) {i j : Nat} (hj : j < ls.length) (hi : i ≤ j) : (ls[i]'(by omega)).m ≤ ls[j].m := by
  by_cases e : i = j
  · subst e; exact Rat.le_refl
  · have := List.pairwise_iff_getElem.mp h i j (by omega) hj (by omega)
    exact Rat.le_of_lt this
/-- the last leg that has begun -/
theorem held_ix {m : Rat} : ∀ (r : List Leg) (l : Leg), SortL (l :: r) → l.m ≤ m → ∃ k, ∃ hk : k < (l :: r).length, heldL (l :: r) m = some (l :: r)[k] ∧ (∀ i (hi : i < (l :: r).length), i ≤ k → (l :: r)[i].m ≤ m) ∧ ∀ i (hi : i < (l :: r).length), k < i → m < (l :: r)[i].m
  | [], l, _, h => ⟨0, by simp, by simp [heldL, h], fun i hi h0 => by
      have : i = 0 := by omega
      subst this; exact h, fun i hi h0 => by simp at hi; omega⟩
  | x :: r, l, hs, h => by
    have hs' : SortL (x :: r) := (List.pairwise_cons.mp hs).2
    by_cases hx : x.m ≤ m
    · obtain ⟨k, hk, e, a, b⟩ := held_ix r x hs' hx
      refine ⟨k + 1, by simp at hk ⊢; omega, ?_, fun i hi h0 => ?_, fun i hi h0 => ?_⟩
      · rw [← show heldL (x :: r) m = heldL (l :: x :: r) m by simp [heldL, h, hx], e]
        simp
      · cases i with
        | zero => exact h
        | succ i => exact a i (by simpa using hi) (by omega)
      · cases i with
        | zero => omega
        | succ i => exact b i (by simpa using hi) (by omega)
    · have hx' := Rat.not_le.mp hx
      have later : ∀ y ∈ x :: r, m < y.m := fun y hy => by
        rcases List.mem_cons.mp hy with rfl | hy
        · exact hx'
        · have := (List.pairwise_cons.mp hs').1 y hy
          grind
      refine ⟨0, by simp, ?_, fun i hi h0 => ?_, fun i hi h0 => ?_⟩
      · have : (x :: r).filter (fun l => decide (l.m ≤ m)) = [] := List.filter_eq_nil_iff.mpr fun y hy => by
          have := later y hy
          simpa using Rat.not_le.mpr this
        unfold heldL
        rw [List.filter_cons_of_pos (by simpa using h), this]
        rfl
      · have : i = 0 := by omega
        subst this; exact h
      · cases i with
        | zero => omega
        | succ i => exact later _ (List.getElem_mem (by simpa using hi))
theorem f_Log_leg_at_eq {l : Leg} {ls : List Leg} {e : Option Rat} {m : Rat} {x : Leg} (ha : ∀ x ∈ l :: ls, Sz 1000 x.m) (hm : Sz 1000 m) (he : ∀ q, e = some q → Sz 1000 q) (hs : SortL (l :: ls)) (ht : thereL (l :: ls) e m = true) (hx : heldL (l :: ls) m = some x) (hn : ls.length < 100000) :
    f_Log_leg_at [logR (l :: ls) (endD e), .da (qD m)] = some (.ok (.da x.d) []) := by
  have h0 : l.m ≤ m := by
    simp only [thereL, Bool.and_eq_true, decide_eq_true_eq] at ht
    exact ht.1
  obtain ⟨k, hk, e1, a, b⟩ := held_ix ls l hs h0
  rw [e1] at hx
  cases hx
  unfold f_Log_leg_at b_Log_leg_at
  refine bodyF_go (by simp; rfl) (by rfl) ?_
  (first | apply seqE | apply seqO); focus (simp (disch := first | assumption | omega) [decT, decF, f_Log_there_eq (ha l (by simp)) hm he, ht]; rfl)
  (first | apply seqE | apply seqO); focus (simp (disch := first | assumption | omega) [decT, decF]; rfl)
  have len : (((l :: ls).length : Nat) : Int) - 1 = ((ls.length : Nat) : Int) := by simp
  (first | apply seqE | apply seqO); focus (simp (disch := first | assumption | omega) [decT, decF, legs_len, len]; rfl)
  have lp := bisB (t := cm2 ltR (varC 2) (varC 3)) (b := w_Log_leg_at_0) (fun lo hi => [.bo (logR (l :: ls) (endD e)), .bo (.da (qD m)), .ow (.da (.int (lo : Int))), .ow (.da (.int (hi : Int))), .un]) (fun i => if h : i < (l :: ls).length then decide (m < (l :: ls)[i].m) else true) k ls.length (by simp at hk; omega)
    (fun i hi => by
      have hi' : i < (l :: ls).length := by omega
      have := a i hi' hi
      simp only [dif_pos hi']
      exact decide_eq_false (Rat.not_lt.mpr this))
    (fun i hi hl => by
      have hi' : i < (l :: ls).length := by simp; omega
      simp only [dif_pos hi']
      exact decide_eq_true (b i hi' hi))
    (fun lo hi _ _ => by simp)
    (fun lo hi hl hh => by
      have hd : divI (.da (.int ((lo : Int) + (hi : Int) + 1))) (.da (.int 2)) = some (.da (.int (((lo + hi + 1) / 2 : Nat) : Int))) := by
        rw [divS (by decide) (by decide)]; congr 3
      have hi' : (lo + hi + 1) / 2 < (l :: ls).length := by simp; omega
      generalize hmid : (lo + hi + 1) / 2 = mid at hd hi' ⊢
      have hg : atI (legsD (l :: ls)) ((mid : Nat) : Int) = some ((l :: ls)[mid]).d := by rw [legs_get, List.getElem?_eq_getElem hi']; rfl
      have hq := ha _ (List.getElem_mem hi')
      have hl := f_less_eq hm hq (by decide)
      have e1 : ((mid : Nat) : Int) - 1 = ((mid - 1 : Nat) : Int) := by omega
      simp only [dif_pos hi']
      by_cases hc : m < (l :: ls)[mid].m
      · simp only [hc, decide_true, if_true] at hl ⊢
        simp [w_Log_leg_at_0, hd, hg, hl, e1]
      · simp only [hc, decide_false, if_false] at hl ⊢
        simp [w_Log_leg_at_0, hd, hg, hl])
  have hg : atI (legsD (l :: ls)) ((k : Nat) : Int) = some ((l :: ls)[k]).d := by rw [legs_get, List.getElem?_eq_getElem hk]; rfl
  simp only [Int.ofNat_zero, Int.cast_ofNat_Int] at lp
  (first | apply seqE | apply seqO); focus (simp (disch := first | assumption | omega) [decT, decF, lp]; rfl)
  simp [hg]
theorem f_Log_leg_at_no {l : Leg} {ls : List Leg} {e : Option Rat} {m : Rat} (hl : Sz 1000 l.m) (hm : Sz 1000 m) (he : ∀ q, e = some q → Sz 1000 q) (ht : thereL (l :: ls) e m = false) : f_Log_leg_at [logR (l :: ls) (endD e), .da (qD m)] = some (.ex "NotThere" []) := by
  simp [f_Log_leg_at, b_Log_leg_at, f_Log_there_eq hl hm he, ht]
end Sm

set_option exponentiation.threshold 20000
namespace Sm
open PySem L2 Cg
/-! ### logs that are walked -/
structure LegB (d : Int) (P m0 : Rat) (l : Leg) : Prop where
  den : l.m.den ≤ 60
  ge : m0 ≤ l.m
  dv : Dv (L60 * d) l.p
  lo : -(P + 1000 * (l.m - m0)) ≤ l.p
  hi : l.p ≤ P + 1000 * (l.m - m0)
  v1 : -1000 ≤ l.v
  v2 : l.v ≤ 1000
structure LogB (d : Int) (P m0 c : Rat) (ls : List Leg) : Prop where
  ne : ls ≠ []
  so : SortL ls
  all : ∀ l ∈ ls, LegB d P m0 l ∧ l.m ≤ c
theorem legB_at {d : Int} {P m0 m : Rat} {l : Leg} {v : Int} (h : LegB d P m0 l) (hm : l.m ≤ m) (hd : m.den ≤ 60) (h1 : -1000 ≤ v) (h2 : v ≤ 1000) : LegB d P m0 ⟨m, l.at m, v⟩ := by
  have a1 : (-1000 : Rat) ≤ (l.v : Rat) := by
    have : (((-1000 : Int)) : Rat) ≤ (l.v : Rat) := Rat.intCast_le_intCast.mpr h.v1
    exact this
  have a2 : (l.v : Rat) ≤ 1000 := by exact_mod_cast h.v2
  have b0 : 0 ≤ m - l.m := by grind
  have b1 : (m - l.m) * (l.v : Rat) ≤ (m - l.m) * 1000 := Rat.mul_le_mul_of_nonneg_left a2 b0
  have b2 : (m - l.m) * (-1000) ≤ (m - l.m) * (l.v : Rat) := Rat.mul_le_mul_of_nonneg_left a1 b0
  have c1 := h.lo
  have c2 := h.hi
  have c3 := h.ge
  refine ⟨hd, ?_, ?_, ?_, ?_, h1, h2⟩
  · show m0 ≤ m
    grind
  · show Dv _ (l.p + (m - l.m) * l.v)
    exact h.dv.add (((dv60 hd).sub (dv60 h.den)).scale d |>.muli l.v)
  · show -(P + 1000 * (m - m0)) ≤ l.p + (m - l.m) * l.v
    grind
  · show l.p + (m - l.m) * l.v ≤ P + 1000 * (m - m0)
    grind
theorem last_split {α : Type} {ls : List α} (h : ls ≠ []) : ∃ r l, ls = r ++ [l] := ⟨ls.dropLast, ls.getLast h, (List.dropLast_concat_getLast h).symm⟩
theorem turnL_snoc (r : List Leg) (l : Leg) (m : Rat) (v : Int) : turnL (r ++ [l]) m v = (if l.m = m then (match r.getLast? with
    | none => r ++ [⟨m, l.at m, v⟩]
    | some l' => if l'.v = v then r else r ++ [⟨m, l.at m, v⟩]) else if l.v = v then r ++ [l] else r ++ [l] ++ [⟨m, l.at m, v⟩]) := by
  unfold turnL
  simp only [List.getLast?_append, List.getLast?_singleton, Option.some_or, List.dropLast_concat]
  by_cases e : l.m = m
  · simp only [if_pos e] <;> rfl
  · simp only [if_neg e, List.getLast?_append, List.getLast?_singleton, Option.some_or]
theorem sort_snoc {r : List Leg} {l : Leg} : SortL (r ++ [l]) ↔ SortL r ∧ ∀ x ∈ r, x.m < l.m := by
  unfold SortL
  rw [List.pairwise_append]
  simp
theorem logB_turn {d : Int} {P m0 c m : Rat} {ls : List Leg} {v : Int} (h : LogB d P m0 c ls) (hc : c ≤ m) (hd : m.den ≤ 60) (h1 : -1000 ≤ v) (h2 : v ≤ 1000) : LogB d P m0 m (turnL ls m v) := by
  obtain ⟨r, l, rfl⟩ := last_split h.ne
  obtain ⟨s1, s2⟩ := sort_snoc.mp h.so
  have hl := h.all l (by simp)
  have hlm : l.m ≤ m := by have := hl.2; grind
  have nw := legB_at hl.1 hlm hd h1 h2
  have old : ∀ x ∈ r ++ [l], LegB d P m0 x ∧ x.m ≤ m := fun x hx => ⟨(h.all x hx).1, by have := (h.all x hx).2; grind⟩
  rw [turnL_snoc]
  have A : l.m = m → LogB d P m0 m (r ++ [⟨m, l.at m, v⟩]) := fun e => ⟨by simp, sort_snoc.mpr ⟨s1, fun x hx => by have := s2 x hx; show x.m < m; rw [← e]; exact this⟩, fun x hx => by
    rcases List.mem_append.mp hx with hx | hx
    · exact old x (by simp [hx])
    · have : x = ⟨m, l.at m, v⟩ := by simpa using hx
      subst this; exact ⟨nw, Rat.le_refl⟩⟩
  split
  · rename_i e
    split
    · exact A e
    · rename_i l' hl'
      split
      · refine ⟨fun z => by subst z; simp at hl', s1, fun x hx => old x (by simp [hx])⟩
      · exact A e
  · rename_i e
    have hlt : l.m < m := by grind
    split
    · exact ⟨by simp, h.so, old⟩
    · refine ⟨by simp, sort_snoc.mpr ⟨h.so, fun x hx => ?_⟩, fun x hx => ?_⟩
      · show x.m < m
        rcases List.mem_append.mp hx with hx | hx
        · have := s2 x hx; grind
        · have : x = l := by simpa using hx
          subst this; exact hlt
      · rcases List.mem_append.mp hx with hx | hx
        · exact old x hx
        · have : x = ⟨m, l.at m, v⟩ := by simpa using hx
          subst this; exact ⟨nw, Rat.le_refl⟩
/-- what is small enough for all reckoning -/
structure Small (d : Int) (P m0 c : Rat) : Prop where
  d0 : 0 < d
  d1 : d.natAbs < 2 ^ 100
  p1 : P ≤ 1000000000000000000000000000000
  m1 : -2000000 ≤ m0
  c1 : c ≤ 2000000
theorem lg_of {d : Int} {P m0 c : Rat} {l : Leg} (s : Small d P m0 c) (h : LegB d P m0 l) (hc : l.m ≤ c) : Lg l := by
  have h1 := s.p1
  have h2 := s.m1
  have h3 := s.c1
  have h4 := h.ge
  have h5 := h.lo
  have h6 := h.hi
  refine ⟨Mo.sz (B := 2000000) ⟨?_, ?_, h.den⟩ (by decide), ?_, by have := h.v1; have := h.v2; omega⟩
  · show -((2000000 : Int) : Rat) ≤ l.m
    rw [show ((2000000 : Int) : Rat) = 2000000 from rfl]; grind
  · rw [show ((2000000 : Int) : Rat) = 2000000 from rfl]; grind
  · have hD : (L60 * d).natAbs < 2 ^ (84 + 100) := nlt_mul (by decide) s.d1
    refine (dv_sz (B := 2000000000000000000000000000000) (a := 184) (b := 101) (Int.mul_pos (by decide) s.d0) hD h.dv ?_ ?_ (by decide)).mono (by decide)
    · rw [show ((2000000000000000000000000000000 : Int) : Rat) = 2000000000000000000000000000000 from rfl]; grind
    · rw [show ((2000000000000000000000000000000 : Int) : Rat) = 2000000000000000000000000000000 from rfl]; grind
theorem lgs_of {d : Int} {P m0 c : Rat} {ls : List Leg} (s : Small d P m0 c) (h : LogB d P m0 c ls) : ∀ l ∈ ls, Lg l := fun l hl => lg_of s (h.all l hl).1 (h.all l hl).2
/-! ### the law's own looks at rows -/
theorem forL_fold {i : Nat} {b : FS} {σ : Type} (en : σ → En) (f : σ → PyData → σ) : ∀ (ds : List PyData) (s : σ), (∀ s, i < (en s).length) → (∀ s, ∀ d ∈ ds, b (put (en s) i (.ow (.da d))) = some (.nx (en (f s d))) ∨ b (put (en s) i (.ow (.da d))) = some (.ct (en (f s d)))) → forL i b ds (en s) = some (.nx (en (ds.foldl f s)))
  | [], s, _, _ => rfl
  | d :: ds, s, hl, h => by
    have ih := forL_fold en f ds (f s d) hl fun s' d' m => h s' d' (by simp [m])
    rw [ev_for1, if_pos (hl s)]
    rcases h s d (by simp) with e | e <;> rw [e] <;> exact ih
def heldF (m : Rat) (b : Leg) (l : Leg) : Leg := if l.m ≤ m then l else b
theorem heldF_eq {m : Rat} : ∀ (ls : List Leg) (b : Leg), ls.foldl (heldF m) b = ((ls.filter fun l => decide (l.m ≤ m)).getLast?).getD b
  | [], b => rfl
  | l :: ls, b => by
    rw [List.foldl_cons, heldF_eq ls]
    by_cases h : l.m ≤ m
    · rw [List.filter_cons_of_pos (by simpa using h), heldF, if_pos h]
      cases hq : ls.filter fun l => decide (l.m ≤ m) with
      | nil => rfl
      | cons a as => rw [List.getLast?_cons_cons]; cases hz : (a :: as).getLast? with
        | none => simp at hz
        | some z => rfl
    · rw [List.filter_cons_of_neg (by simpa using h), heldF, if_neg h]
theorem le_num {p q : Rat} : decide (p.num * q.den ≤ q.num * p.den) = decide (p ≤ q) := by rw [decide_eq_decide]; exact (Rat.le_iff p q).symm
theorem lt_num {p q : Rat} : decide (p.num * q.den < q.num * p.den) = decide (p < q) := by rw [decide_eq_decide]; exact (Rat.lt_iff p q).symm
/-- crosswise products -/
theorem mulQ {p q : Rat} {n m : Nat} (hp : Sz n p) (hq : Sz m q) (h : n + m ≤ 8000) : mulR (.da (.int p.num)) (.da (.int q.den)) = some (.da (.int (p.num * q.den))) := ev_mulI (cmul_of hp.num hq.den (by omega))
theorem f_held_eq {l : Leg} {ls : List Leg} {m : Rat} (ha : ∀ x ∈ l :: ls, Sz 1000 x.m) (hm : Sz 1000 m) : f_l_held [.da (.list (legsD (l :: ls))), .da (qD m)] = some (.ok (.da (((l :: ls).foldl (heldF m) l).d)) []) := by
  unfold f_l_held b_l_held
  refine bodyF_go (by simp; rfl) (by rfl) ?_
  (first | apply seqE | apply seqO); focus (simp (disch := first | assumption | omega) [decT, decF, legs_get0]; rfl)
  have lp : ∀ (r : List Leg) (b : Leg), (∀ x ∈ r, Sz 1000 x.m) → forL 3 w_l_held_0 (legsD r) [.bo (.da (.list (legsD (l :: ls)))), .bo (.da (qD m)), .ow (.da b.d), .un] = some (.nx [.bo (.da (.list (legsD (l :: ls)))), .bo (.da (qD m)), .ow (.da (r.foldl (heldF m) b).d), .un]) := by
    intro r
    induction r with
    | nil => intro b _; rfl
    | cons x r ih =>
      intro b hx
      have h1 := mulQ (hx x (by simp)) hm (by decide)
      have h2 := mulQ hm (hx x (by simp)) (by decide)
      rw [show legsD (x :: r) = x.d :: legsD r from rfl, forL_nx (ρ1 := [.bo (.da (.list (legsD (l :: ls)))), .bo (.da (qD m)), .ow (.da (heldF m b x).d), .un]) ?_ (by simp)]
      · exact ih _ fun y hy => hx y (by simp [hy])
      · by_cases hc : x.m ≤ m
        · have := le_num (p := x.m) (q := m)
          simp only [hc, decide_true, decide_eq_true_eq] at this
          simp [w_l_held_0, h1, h2, this, heldF, hc]
        · have := le_num (p := x.m) (q := m)
          simp only [hc, decide_false, decide_eq_false_iff_not] at this
          simp [w_l_held_0, h1, h2, this, heldF, hc]
  (first | apply seqE | apply seqO); focus (simp (disch := first | assumption | omega) [decT, decF, lp (l :: ls) l ha]; rfl)
  simp
theorem f_legalike_eq (l : Leg) : f_l_legalike [.da l.d, .da l.d] = some (.ok (.da (.bool true)) []) := by
  simp [f_l_legalike, b_l_legalike, show isiR "tuple" (.da l.d) = some (.da (.bool true)) from ev_isiT _, show lenV (.da l.d) = some (.da (.int 3)) from rfl]
end Sm

set_option exponentiation.threshold 20000
namespace Sm
open PySem L2 Cg
/-- how fast, by the mode -/
def paceM (a md : Int) : Int := if md = 0 then a % 3 - 1 else if md = 1 then a % 3 - 1 else if md = 2 then a % 25 - 12 else a - 1000
theorem paceM_ge {a md : Int} (h0 : 0 ≤ a) (h1 : a < 2001) : -1000 ≤ paceM a md ∧ paceM a md ≤ 1000 := by
  unfold paceM
  split
  · omega
  split
  · omega
  split <;> omega
theorem paceM_at {a md : Int} (h0 : 0 ≤ md) (h1 : md < 4) : atI [PyData.int (a % 3 - 1), .int (a % 3 - 1), .int (a % 25 - 12), .int (a - 1000)] md = some (.int (paceM a md)) := by
  have : md = 0 ∨ md = 1 ∨ md = 2 ∨ md = 3 := by omega
  rcases this with rfl | rfl | rfl | rfl <;> rfl
theorem atI0 {α : Type} (a : α) (l : List α) : atI (a :: l) 0 = some a := by
  rw [show (0 : Int) = ((0 : Nat) : Int) from rfl, atI_nat]; rfl
theorem atI1 {α : Type} (a b : α) (l : List α) : atI (a :: b :: l) 1 = some b := by
  rw [show (1 : Int) = ((1 : Nat) : Int) from rfl, atI_nat]; rfl
theorem atI2 {α : Type} (a b c : α) (l : List α) : atI (a :: b :: c :: l) 2 = some c := by
  rw [show (2 : Int) = ((2 : Nat) : Int) from rfl, atI_nat]; rfl
theorem atI3 {α : Type} (a b c d : α) (l : List α) : atI (a :: b :: c :: d :: l) 3 = some d := by
  rw [show (3 : Int) = ((3 : Nat) : Int) from rfl, atI_nat]; rfl
theorem atI4 {α : Type} (a b c d e : α) (l : List α) : atI (a :: b :: c :: d :: e :: l) 4 = some e := by
  rw [show (4 : Int) = ((4 : Nat) : Int) from rfl, atI_nat]; rfl
theorem atI5 {α : Type} (a b c d e f : α) (l : List α) : atI (a :: b :: c :: d :: e :: f :: l) 5 = some f := by
  rw [show (5 : Int) = ((5 : Nat) : Int) from rfl, atI_nat]; rfl
theorem atI6 {α : Type} (a b c d e f g : α) (l : List α) : atI (a :: b :: c :: d :: e :: f :: g :: l) 6 = some g := by
  rw [show (6 : Int) = ((6 : Nat) : Int) from rfl, atI_nat]; rfl
theorem atI7 {α : Type} (a b c d e f g h : α) (l : List α) : atI (a :: b :: c :: d :: e :: f :: g :: h :: l) 7 = some h := by
  rw [show (7 : Int) = ((7 : Nat) : Int) from rfl, atI_nat]; rfl
theorem later_den {c : Rat} (h : c.den ≤ 60) (n b md : Int) : (laterR c n b md).den ≤ 60 := by
  unfold laterR
  split
  · exact h
  · obtain ⟨u1, u2⟩ := laterU_le b md
    have := den_div_le (a := c.num * laterU b md / c.den + laterS n (laterU b md) md) (b := laterU b md) (by omega)
    omega
/-- where a row of turns ends -/
structure Walked (d : Int) (P m0 : Rat) (c : Rat) (n : Nat) (k : Nat) (c' : Rat) (ls' : List Leg) : Prop where
  log : LogB d P m0 c' ls'
  den : c'.den ≤ 60
  ge : c ≤ c'
  le : c' ≤ c + 500 * (k : Nat)
  len : ls'.length ≤ n + k
theorem logged_step {d : Int} {P m0 c : Rat} {ls : List Leg} {e : PyData} {md x : Int} {s1 s2 s4 : Sv} {rows : Rs} (h1 : s1 = .bo (.da (.list (legsD ls))) ∨ s1 = .ow (.da (.list (legsD ls)))) (h4 : s4 = .bo (.da (qD c)) ∨ s4 = .ow (.da (qD c))) (h2 : s2 = .bo rows)
    (hb : LogB d P m0 c ls) (hd : c.den ≤ 60) (hs : Small d P m0 (c + 500)) (m1 : 0 ≤ md) (m2 : md < 4) (hn : ls.length < 10000) :
    ∃ c' ls', w_l_logged_0 (put [.ow (logR ls e), s1, s2, .bo (.da (.int md)), s4, .un, .un, .un] 5 (.ow (.da (.int x)))) = some (.nx [.ow (logR ls' e), .ow (.da (.list (legsD ls'))), s2, .bo (.da (.int md)), .ow (.da (qD c')), .un, .un, .un]) ∧ Walked d P m0 c ls.length 1 c' ls' := by
  obtain ⟨r0, r1, r2, hdg, b0, b1, b2, b3, b4, b5⟩ := dig3 x (t0 := 400000) (t1 := 60) (t2 := 2001) (by decide)
  have hv := paceM_ge (md := md) b4 b5
  have hge := later_ge c r0 r1 md
  have hle := later_le c r0 r1 md
  have hden := later_den hd r0 r1 md
  have hlat := f_later_eq (n := r0) (b := r1) m1 m2 (c := c) (n0 := 40) (Mo.sz (B := 2000000) ⟨by
    have := hs.m1; have := hs.c1
    obtain ⟨r, l, e⟩ := last_split hb.ne
    have hl := hb.all l (by simp [e])
    have := hl.1.ge; have := hl.2
    rw [show ((2000000 : Int) : Rat) = 2000000 from rfl]; grind, by have := hs.c1; rw [show ((2000000 : Int) : Rat) = 2000000 from rfl]; grind, hd⟩ (by decide)) (by decide)
  generalize laterR c r0 r1 md = c' at hge hle hden hlat
  have pa := paceM_at (a := r2) m1 m2
  generalize paceM r2 md = v at hv pa
  have nb := logB_turn hb hge hden hv.1 hv.2
  have hs' : Small d P m0 c' := ⟨hs.d0, hs.d1, hs.p1, hs.m1, by have := hs.c1; grind⟩
  have hsc : Small d P m0 c := ⟨hs.d0, hs.d1, hs.p1, hs.m1, by have := hs.c1; grind⟩
  obtain ⟨r, l, el⟩ := last_split hb.ne
  have hgl : ls.getLast? = some l := by rw [el]; simp
  have hl := hb.all l (by simp [el])
  have lg := lg_of hsc hl.1 hl.2
  have hm' : Sz 40 c' := Mo.sz (B := 2000000) ⟨by
    have := hs.m1; have := hl.1.ge; have := hl.2
    rw [show ((2000000 : Int) : Rat) = 2000000 from rfl]; grind, by have := hs'.c1; rw [show ((2000000 : Int) : Rat) = 2000000 from rfl]; grind, hden⟩ (by decide)
  have htu := f_Log_turn_eq (e := e) (v := v) hgl lg.m lg.p lg.v hm' (by decide) (by omega)
  have htd := f_turned_eq (v := v) hgl lg.m lg.p lg.v hm' (by decide) (by omega)
  refine ⟨c', turnL ls c' v, ?_, nb, hden, hge, by simpa using hle, turnL_len ls c' v⟩
  subst h2
  rcases h1 with rfl | rfl <;> rcases h4 with rfl | rfl
  all_goals
    unfold w_l_logged_0
    apply klN
    (first | apply seqE | apply seqO); focus (simp (disch := first | assumption | omega) [decT, decF, hdg]; rfl)
    (first | apply seqE | apply seqO); focus (simp (disch := first | assumption | omega) [decT, decF, atI0, atI1, hlat]; rfl)
    (first | apply seqE | apply seqO); focus (simp (disch := first | assumption | omega) [decT, decF, atI2, modS, pa]; rfl)
    (first | apply seqE | apply seqO); focus (simp (disch := first | assumption | omega) [decT, decF, htu]; rfl)
    (simp (disch := first | assumption | omega) [decT, decF, htd]; rfl)
    simp
theorem Small.mono {d : Int} {P m0 c c' : Rat} (h : Small d P m0 c) (hc : c' ≤ c) : Small d P m0 c' := ⟨h.d0, h.d1, h.p1, h.m1, by have := h.c1; grind⟩
theorem Walked.trans {d : Int} {P m0 c c1 c2 : Rat} {n i j : Nat} {ls1 ls2 : List Leg} (a : Walked d P m0 c n i c1 ls1) (b : Walked d P m0 c1 ls1.length j c2 ls2) : Walked d P m0 c n (i + j) c2 ls2 :=
  ⟨b.log, b.den, by have := a.ge; have := b.ge; grind, by have := a.le; have := b.le; rw [Rat.natCast_add]; grind, by have := a.len; have := b.len; omega⟩
theorem logged_loop {d : Int} {P m0 : Rat} {e : PyData} {md : Int} {rows : Rs} (m1 : 0 ≤ md) (m2 : md < 4) : ∀ (xs : List Int) (c : Rat) (ls : List Leg), LogB d P m0 c ls → c.den ≤ 60 → Small d P m0 (c + 500 * (xs.length : Nat)) → ls.length + xs.length < 10000 →
    ∃ c' ls', forL 5 w_l_logged_0 (xs.map .int) [.ow (logR ls e), .ow (.da (.list (legsD ls))), .bo rows, .bo (.da (.int md)), .ow (.da (qD c)), .un, .un, .un] = some (.nx [.ow (logR ls' e), .ow (.da (.list (legsD ls'))), .bo rows, .bo (.da (.int md)), .ow (.da (qD c')), .un, .un, .un]) ∧ Walked d P m0 c ls.length xs.length c' ls'
  | [], c, ls, hb, hd, hs, hn => ⟨c, ls, rfl, hb, hd, Rat.le_refl, by simp; grind, by simp⟩
  | x :: xs, c, ls, hb, hd, hs, hn => by
    simp only [List.length_cons] at hs hn
    have hx0 : (0 : Rat) ≤ (xs.length : Nat) := by exact_mod_cast Nat.zero_le _
    have hcast : (((xs.length + 1 : Nat)) : Rat) = (xs.length : Nat) + 1 := by rw [Rat.natCast_add]; rfl
    rw [hcast] at hs
    obtain ⟨c1, ls1, e1, w1⟩ := logged_step (e := e) (x := x) (s2 := .bo rows) (.inr rfl) (.inr rfl) rfl hb hd (hs.mono (by grind)) m1 m2 (by omega)
    have hle := w1.le
    have hl1 := w1.len
    obtain ⟨c2, ls2, e2, w2⟩ := logged_loop m1 m2 xs c1 ls1 w1.log w1.den (hs.mono (by simp at hle; grind)) (by omega)
    refine ⟨c2, ls2, ?_, ?_⟩
    · rw [List.map_cons, forL_nx e1 (by simp)]; exact e2
    · have := w1.trans w2
      rw [List.length_cons, Nat.add_comm]; exact this
theorem f_logged_eq {d : Int} {P m0 c : Rat} {ls : List Leg} {e : PyData} {md : Int} {xs : List Int} (m1 : 0 ≤ md) (m2 : md < 4) (hb : LogB d P m0 c ls) (hd : c.den ≤ 60) (hs : Small d P m0 (c + 500 * (xs.length : Nat))) (hn : ls.length + xs.length < 10000) :
    ∃ c' ls', f_l_logged [logR ls e, .da (.list (legsD ls)), .da (.list (xs.map .int)), .da (.int md), .da (qD c)] = some (.ok (.da (.tuple [.list (legsD ls'), qD c'])) [logR ls' e]) ∧ Walked d P m0 c ls.length xs.length c' ls' := by
  cases xs with
  | nil =>
    refine ⟨c, ls, ?_, hb, hd, Rat.le_refl, by simp; grind, by simp⟩
    simp [f_l_logged, b_l_logged]
  | cons x xs =>
    simp only [List.length_cons] at hs hn
    have hx0 : (0 : Rat) ≤ (xs.length : Nat) := by exact_mod_cast Nat.zero_le _
    have hcast : (((xs.length + 1 : Nat)) : Rat) = (xs.length : Nat) + 1 := by rw [Rat.natCast_add]; rfl
    rw [hcast] at hs
    obtain ⟨c1, ls1, e1, w1⟩ := logged_step (e := e) (x := x) (s1 := .bo (.da (.list (legsD ls)))) (s4 := .bo (.da (qD c))) (s2 := .bo (.da (.list ((x :: xs).map .int)))) (.inl rfl) (.inl rfl) rfl hb hd (hs.mono (by grind)) m1 m2 (by omega)
    have hle := w1.le
    have hl1 := w1.len
    obtain ⟨c2, ls2, e2, w2⟩ := logged_loop (e := e) (rows := .da (.list ((x :: xs).map .int))) m1 m2 xs c1 ls1 w1.log w1.den (hs.mono (by simp at hle; grind)) (by omega)
    refine ⟨c2, ls2, ?_, ?_⟩
    · have lp : forL 5 w_l_logged_0 ((x :: xs).map .int) [.ow (logR ls e), .bo (.da (.list (legsD ls))), .bo (.da (.list ((x :: xs).map .int))), .bo (.da (.int md)), .bo (.da (qD c)), .un, .un, .un] = some (.nx [.ow (logR ls2 e), .ow (.da (.list (legsD ls2))), .bo (.da (.list ((x :: xs).map .int))), .bo (.da (.int md)), .ow (.da (qD c2)), .un, .un, .un]) := by
        exact (forL_nx (ds := xs.map .int) e1 (by simp)).trans e2
      unfold f_l_logged b_l_logged
      refine bodyF_go (by simp; rfl) (by rfl) ?_
      simp only [List.map_cons] at lp
      (first | apply seqE | apply seqO); focus (simp (disch := first | assumption | omega) [decT, decF, lp]; rfl)
      simp
    · have := w1.trans w2
      rw [List.length_cons, Nat.add_comm]; exact this
end Sm

set_option exponentiation.threshold 20000
namespace Sm
open PySem L2 Cg
theorem seqJ {s1 s2 : FS} {ρ : En} {mk : List Bool} {R : Option Rt} {A : Type} (en : A → En) (P : A → Prop) (h : ∃ a, s1 ρ = some (.nx (en a)) ∧ P a) (k : ∀ a, P a → endF mk (s2 (en a)) = R) : endF mk (seqS s1 s2 ρ) = R := by
  obtain ⟨a, e, p⟩ := h
  exact seqE e (k a p)
theorem seqJO {s1 s2 : FS} {ρ : En} {R : Option Out} {A : Type} (en : A → En) (P : A → Prop) (h : ∃ a, s1 ρ = some (.nx (en a)) ∧ P a) (k : ∀ a, P a → s2 (en a) = R) : seqS s1 s2 ρ = R := by
  obtain ⟨a, e, p⟩ := h
  exact seqO e (k a p)
@[simp] theorem rngA_len (lo n : Nat) : (rngA lo n).length = n := by rw [rngA_eq]; simp
theorem lcL_rng {i : Nat} {sd : FD} {ρ : En} (g : Nat → PyData) (n : Nat) (h : ∀ k, k < n → sd (put ρ i (.ow (.da (.int (k : Int))))) = some (.ok (g k))) : lcL i yesT sd ρ (rngA 0 n) = some ((List.range n).map g) := by
  have := lcL_map (i := i) (sd := sd) (ρ := ρ) (fun d => match d with
    | .int z => g z.toNat
    | _ => .none) (rngA 0 n) fun d hd => by
    rw [rngA_eq] at hd
    obtain ⟨k, hk, rfl⟩ := List.mem_map.mp hd
    have hk := List.mem_range.mp hk
    simp only [Nat.zero_add]
    exact h k hk
  rw [this, rngA_eq, List.map_map]
  congr 1
  refine List.map_congr_left fun k _ => ?_
  simp
theorem lcL_mapT {α : Type} {i : Nat} {sd : FD} {ρ : En} (en g : α → PyData) : ∀ (xs : List α), (∀ x ∈ xs, sd (put ρ i (.ow (.da (en x)))) = some (.ok (g x))) → lcL i yesT sd ρ (xs.map en) = some (xs.map g)
  | [], _ => rfl
  | x :: xs, h => by
    rw [List.map_cons, ev_lcL1]
    simp only [ev_yesT, h x (by simp), lcL_mapT en g xs fun y m => h y (by simp [m]), ev_okk, List.map_cons]
theorem lcL_filT {α : Type} {i : Nat} {t : En → Option Bool} {sd : FD} {ρ : En} (en g : α → PyData) (p : α → Bool) : ∀ (xs : List α), (∀ x ∈ xs, t (put ρ i (.ow (.da (en x)))) = some (p x) ∧ (p x = true → sd (put ρ i (.ow (.da (en x)))) = some (.ok (g x)))) → lcL i t sd ρ (xs.map en) = some ((xs.filter p).map g)
  | [], _ => rfl
  | x :: xs, h => by
    obtain ⟨h1, h2⟩ := h x (by simp)
    rw [List.map_cons, ev_lcL1]
    simp only [h1]
    cases hp : p x with
    | true => simp only [h2 hp, ev_okk, lcL_filT en g p xs fun y m => h y (by simp [m]), List.filter_cons, hp, if_true, List.map_cons]
    | false => simp only [lcL_filT en g p xs fun y m => h y (by simp [m]), List.filter_cons, hp, Bool.false_eq_true, if_false]
/-- a loop over told things that leaves all as it is -/
theorem forL_same {i : Nat} {b : FS} {ρ : En} {α : Type} (en : α → PyData) (hl : i < ρ.length) : ∀ (xs : List α), (∀ x ∈ xs, b (put ρ i (.ow (.da (en x)))) = some (.nx ρ) ∨ b (put ρ i (.ow (.da (en x)))) = some (.ct ρ)) → forL i b (xs.map en) ρ = some (.nx ρ)
  | [], _ => rfl
  | x :: xs, h => by
    have ih := forL_same en hl xs fun y m => h y (by simp [m])
    rw [List.map_cons, ev_for1, if_pos hl]
    rcases h x (by simp) with e | e <;> rw [e] <;> exact ih
/-- .. that goes on by a typed state -/
theorem forL_foldT {i : Nat} {b : FS} {σ α : Type} (en : α → PyData) (st : σ → En) (f : σ → α → σ) (I : Nat → σ → Prop) (hl : ∀ s, i < (st s).length) : ∀ (xs : List α) (k : Nat) (s : σ), I k s → (∀ j s, ∀ x ∈ xs, j < k + xs.length → I j s → (b (put (st s) i (.ow (.da (en x)))) = some (.nx (st (f s x))) ∨ b (put (st s) i (.ow (.da (en x)))) = some (.ct (st (f s x)))) ∧ I (j + 1) (f s x)) → forL i b (xs.map en) (st s) = some (.nx (st (xs.foldl f s))) ∧ I (k + xs.length) (xs.foldl f s)
  | [], k, s, hi, _ => ⟨rfl, hi⟩
  | x :: xs, k, s, hi, h => by
    obtain ⟨h1, h2⟩ := h k s x (by simp) (by simp) hi
    obtain ⟨e1, e2⟩ := forL_foldT en st f I hl xs (k + 1) (f s x) h2 fun j s' y m hj => h j s' y (by simp [m]) (by simp at hj ⊢; omega)
    refine ⟨?_, by rw [List.length_cons, show k + (xs.length + 1) = k + 1 + xs.length by omega]; exact e2⟩
    rw [List.map_cons, ev_for1, if_pos (hl s)]
    rcases h1 with e | e <;> rw [e] <;> exact e1
theorem lcL_legs {i : Nat} {sd : FD} {ρ : En} (g : Leg → PyData) (ls : List Leg) (h : ∀ x ∈ ls, sd (put ρ i (.ow (.da x.d))) = some (.ok (g x))) : lcL i yesT sd ρ (legsD ls) = some (ls.map g) := lcL_mapT Leg.d g ls h
theorem itR_n {sd : FD} {ρ : En} {z : Int} (h : okk (sd ρ) = some (.int z)) (h1 : -1000000 ≤ z) (h2 : z ≤ 1000000000) : itR sd ρ = some (rngA 0 z.toNat) := by
  unfold itR
  rw [h]
  simp only
  rw [if_pos (by omega), rng_A]
def cellsOf (ns : List Int) (off n : Nat) : List Int := (List.range n).map fun k => cell ns (off + k)
@[simp] theorem cellsOf_len (ns : List Int) (off n : Nat) : (cellsOf ns off n).length = n := by simp [cellsOf]
theorem cells_map (ns : List Int) (off n : Nat) : (List.range n).map (fun k => PyData.int (cell ns (off + k))) = (cellsOf ns off n).map .int := by unfold cellsOf; rw [List.map_map]; rfl
theorem drawnR_bd {a b d : Int} (hb : 0 ≤ b) (hb' : b < 1000000000000000000000000000000) (hd : 0 ≤ d) (hd' : d < 1000000000000000000000000000000) : -1000000000000000000000000000000 ≤ drawnR a b d ∧ drawnR a b d ≤ 1000000000000000000000000000000 ∧ (drawnR a b d).den ≤ 1000000000000000000000000000000 := by
  have key : ∀ x y : Int, 0 < y → -1000000000000000000000000000000 ≤ x → x ≤ 1000000000000000000000000000000 → y ≤ 1000000000000000000000000000000 → (-1000000000000000000000000000000 : Rat) ≤ (x : Rat) / (y : Rat) ∧ (x : Rat) / (y : Rat) ≤ 1000000000000000000000000000000 ∧ ((x : Rat) / (y : Rat)).den ≤ 1000000000000000000000000000000 := fun x y h1 h2 h3 h4 => by
    have hy := int_pos h1
    have hy1 : (1 : Rat) ≤ (y : Rat) := by exact_mod_cast (show (1 : Int) ≤ y by omega)
    have hx1 : (x : Rat) ≤ 1000000000000000000000000000000 := by
      have : (x : Rat) ≤ (((1000000000000000000000000000000 : Int)) : Rat) := Rat.intCast_le_intCast.mpr h3
      exact this
    have hx2 : (-1000000000000000000000000000000 : Rat) ≤ (x : Rat) := by
      have : (((-1000000000000000000000000000000 : Int)) : Rat) ≤ (x : Rat) := Rat.intCast_le_intCast.mpr h2
      exact this
    refine ⟨?_, ?_, ?_⟩
    · refine Rat.not_lt.mp fun z => ?_
      rw [Rat.div_lt_iff hy] at z
      have : (-1000000000000000000000000000000 : Rat) * y ≤ -1000000000000000000000000000000 * 1 := by grind
      grind
    · refine Rat.not_lt.mp fun z => ?_
      rw [Rat.lt_div_iff hy] at z
      grind
    · have := den_div_le (a := x) h1
      omega
  unfold drawnR
  split
  · exact key _ _ (by omega) (by omega) (by omega) (by omega)
  split
  · exact key _ _ (by omega) (by omega) (by omega) (by omega)
  split
  · exact key _ _ (by omega) (by omega) (by omega) (by omega)
  · exact key _ _ (by omega) (by omega) (by omega) (by omega)
theorem drawn_bd (c : Int) : -1000000000000000000000000000000 ≤ drawn c ∧ drawn c ≤ 1000000000000000000000000000000 ∧ (drawn c).den ≤ 1000000000000000000000000000000 := by
  have hb := digits_below c [4, 1000000000000000000000000000000, 1000000000000000000000000000000] (by decide)
  unfold drawn
  generalize digits c [4, 1000000000000000000000000000000, 1000000000000000000000000000000] = row at hb ⊢
  obtain ⟨r0, _, rfl, h00, h01, hb⟩ := below_cons hb
  obtain ⟨r1, _, rfl, h10, h11, hb⟩ := below_cons hb
  obtain ⟨r2, _, rfl, h20, h21, hb⟩ := below_cons hb
  cases below_nil hb
  exact drawnR_bd h10 h11 h20 h21
/-- a log that begins -/
theorem logB_new {P c p : Rat} {v : Int} (hd : c.den ≤ 60) (h1 : -P ≤ p) (h2 : p ≤ P) (v1 : -1000 ≤ v) (v2 : v ≤ 1000) : LogB p.den P c c [⟨c, p, v⟩] := by
  refine ⟨by simp, by simp [SortL], fun l hl => ?_⟩
  have : l = ⟨c, p, v⟩ := by simpa using hl
  subst this
  refine ⟨⟨hd, Rat.le_refl, ?_, by grind, by grind, v1, v2⟩, Rat.le_refl⟩
  show Dv (L60 * (p.den : Int)) p
  exact dv_of ⟨L60, by rw [Int.mul_comm]⟩
theorem f_low_half {q : Rat} {n : Nat} (h : Sz n q) (hn : n ≤ 7000) : f_l_low [.da (.int (2 * q.num - q.den)), .da (.int (2 * q.den))] = some (.ok (.da (qD (q - 1 / 2))) []) := by
  have hp := den_pos q
  have e := f_low_eq (a := 2 * q.num - q.den) (b := 2 * q.den) (by omega) (nlt_mono (nlt_mul (n := 2) (a := 2) (by decide) h.den) (by omega))
  have e2 : ((2 * q.num - q.den : Int) : Rat) / ((2 * q.den : Int) : Rat) = q - 1 / 2 := by
    have h1 := rat_eq q
    have h2 := den_ne q
    rw [Rat.intCast_sub, Rat.intCast_mul, Rat.intCast_mul]
    rw [show ((2 : Int) : Rat) = 2 from rfl]
    generalize ((q.den : Int) : Rat) = d at *
    generalize (q.num : Rat) = n at *
    grind
  rw [e2] at e
  exact e
theorem sz_half {q : Rat} {n : Nat} (h : Sz n q) : Sz (n + 3) (q - 1 / 2) := (h.sub (show Sz 2 ((1 : Rat) / 2) by constructor <;> decide +kernel)).mono (by omega)
def qsD (ms : List Rat) : List PyData := ms.map qD
theorem qs_len (ms : List Rat) : (qsD ms).length = ms.length := by simp [qsD]
theorem app_qs {ms : List Rat} {q : Rat} (h : ms.length < 1000000) : appF (qsD ms) [qD q] = some (.none, qsD (ms ++ [q])) := by
  rw [ev_app (by rw [qs_len]; unfold sizeLine; omega)]; simp [qsD]
end Sm

/-! Orders and sorted lists (plain). -/
namespace Sm
open PySem L2 Cg
structure SO {α : Type} (lt : α → α → Prop) : Prop where
  ir : ∀ a, ¬ lt a a
  tr : ∀ {a b c}, lt a b → lt b c → lt a c
  to : ∀ {a b}, a ≠ b → lt a b ∨ lt b a
theorem SO.as {α : Type} {lt : α → α → Prop} (O : SO lt) {a b : α} (h : lt a b) : ¬ lt b a := fun h' => O.ir a (O.tr h h')
theorem sorted_uniq {α : Type} {lt : α → α → Prop} (O : SO lt) : ∀ {l1 l2 : List α}, l1.Pairwise lt → l2.Pairwise lt → (∀ a, a ∈ l1 ↔ a ∈ l2) → l1 = l2
  | [], [], _, _, _ => rfl
  | [], b :: l2, _, _, h => absurd ((h b).mpr (by simp)) (by simp)
  | a :: l1, [], _, _, h => absurd ((h a).mp (by simp)) (by simp)
  | a :: l1, b :: l2, h1, h2, h => by
    obtain ⟨p1, q1⟩ := List.pairwise_cons.mp h1
    obtain ⟨p2, q2⟩ := List.pairwise_cons.mp h2
    have e : a = b := by
      rcases List.mem_cons.mp ((h a).mp (by simp)) with e | e
      · exact e
      · rcases List.mem_cons.mp ((h b).mpr (by simp)) with e' | e'
        · exact e'.symm
        · exact absurd (p1 b e') (O.as (p2 a e))
    subst e
    congr 1
    refine sorted_uniq O q1 q2 fun x => ⟨fun hx => ?_, fun hx => ?_⟩
    · rcases List.mem_cons.mp ((h x).mp (by simp [hx])) with e | e
      · subst e; exact absurd (p1 x hx) (O.ir x)
      · exact e
    · rcases List.mem_cons.mp ((h x).mpr (by simp [hx])) with e | e
      · subst e; exact absurd (p2 x hx) (O.ir x)
      · exact e
/-- put where it belongs -/
def insS {α : Type} (p : α → Bool) (x : α) (l : List α) : List α := l.takeWhile p ++ x :: l.dropWhile p
theorem mem_insS {α : Type} {p : α → Bool} {x : α} {l : List α} {a : α} : a ∈ insS p x l ↔ a = x ∨ a ∈ l := by
  unfold insS
  conv => rhs; rw [← List.takeWhile_append_dropWhile (p := p) (l := l)]
  simp only [List.mem_append, List.mem_cons]
  constructor
  · rintro (h | h | h)
    · exact .inr (.inl h)
    · exact .inl h
    · exact .inr (.inr h)
  · rintro (h | h | h)
    · exact .inr (.inl h)
    · exact .inl h
    · exact .inr (.inr h)
theorem len_insS {α : Type} {p : α → Bool} {x : α} {l : List α} : (insS p x l).length = l.length + 1 := by
  have := congrArg List.length (List.takeWhile_append_dropWhile (p := p) (l := l))
  rw [List.length_append] at this
  unfold insS
  rw [List.length_append, List.length_cons]; omega
theorem take_all {α : Type} {p : α → Bool} : ∀ {l : List α} {a : α}, a ∈ l.takeWhile p → p a = true
  | [], _, h => by simp at h
  | x :: l, a, h => by
    rw [List.takeWhile_cons] at h
    split at h
    · rename_i hx
      rcases List.mem_cons.mp h with rfl | h
      · exact hx
      · exact take_all h
    · simp at h
theorem drop_none {α : Type} {lt : α → α → Prop} (O : SO lt) {x : α} {p : α → Bool} (hp : ∀ a, p a = true ↔ lt a x) : ∀ {l : List α}, l.Pairwise lt → ∀ a ∈ l.dropWhile p, ¬ lt a x
  | [], _, a, h => by simp at h
  | y :: l, hl, a, h => by
    obtain ⟨p1, q1⟩ := List.pairwise_cons.mp hl
    rw [List.dropWhile_cons] at h
    split at h
    · exact drop_none O hp q1 a h
    · rename_i hy
      have hy' : ¬ lt y x := fun z => hy ((hp y).mpr z)
      rcases List.mem_cons.mp h with rfl | h
      · exact hy'
      · exact fun z => hy' (O.tr (p1 a h) z)
theorem insS_sorted {α : Type} {lt : α → α → Prop} (O : SO lt) {x : α} {p : α → Bool} (hp : ∀ a, p a = true ↔ lt a x) {l : List α} (hl : l.Pairwise lt) (hx : x ∉ l) : (insS p x l).Pairwise lt := by
  have h0 := hl
  rw [← List.takeWhile_append_dropWhile (p := p) (l := l)] at h0
  obtain ⟨a1, a2, a3⟩ := List.pairwise_append.mp h0
  refine List.pairwise_append.mpr ⟨a1, List.pairwise_cons.mpr ⟨fun b hb => ?_, a2⟩, fun a ha b hb => ?_⟩
  · have h1 := drop_none O hp hl b hb
    have hne : x ≠ b := fun e => hx (by rw [e]; exact (List.dropWhile_sublist p).subset hb)
    rcases O.to hne with h | h
    · exact h
    · exact absurd h h1
  · rcases List.mem_cons.mp hb with rfl | hb
    · exact (hp a).mp (take_all ha)
    · exact a3 a ha b hb
/-- the place by counting -/
theorem ix_lt {α : Type} {lt : α → α → Prop} (O : SO lt) {x : α} {p : α → Bool} (hp : ∀ a, p a = true ↔ lt a x) : ∀ {l : List α}, l.Pairwise lt → (∀ i (h : i < l.length), i < (l.takeWhile p).length → p l[i] = true) ∧ ∀ i (h : i < l.length), (l.takeWhile p).length ≤ i → p l[i] = false
  | [], _ => ⟨fun i h => by simp at h, fun i h => by simp at h⟩
  | y :: l, hl => by
    obtain ⟨p1, q1⟩ := List.pairwise_cons.mp hl
    obtain ⟨a1, a2⟩ := ix_lt O hp q1
    cases hy : p y with
    | true =>
      refine ⟨fun i h hi => ?_, fun i h hi => ?_⟩
      · cases i with
        | zero => exact hy
        | succ i => exact a1 i (by simpa using h) (by simpa [List.takeWhile_cons, hy] using hi)
      · cases i with
        | zero => simp [List.takeWhile_cons, hy] at hi
        | succ i => exact a2 i (by simpa using h) (by simpa [List.takeWhile_cons, hy] using hi)
    | false =>
      have hy' : ¬ lt y x := fun z => by rw [(hp y).mpr z] at hy; cases hy
      refine ⟨fun i h hi => by simp [List.takeWhile_cons, hy] at hi, fun i h hi => ?_⟩
      cases i with
      | zero => exact hy
      | succ i =>
        have hm : l[i]'(by simpa using h) ∈ l := List.getElem_mem _
        show p (l[i]'(by simpa using h)) = false
        cases hq : p (l[i]'(by simpa using h)) with
        | false => rfl
        | true => exact absurd (O.tr (p1 _ hm) ((hp _).mp hq)) hy'
theorem tw_len {α : Type} (p : α → Bool) (l : List α) : (l.takeWhile p).length ≤ l.length := by
  have := congrArg List.length (List.takeWhile_append_dropWhile (p := p) (l := l))
  rw [List.length_append] at this
  omega
/-! ### three parts, one after the other -/
def tri {α β γ : Type} (la : α → α → Prop) (lb : β → β → Prop) (lc : γ → γ → Prop) (x y : α × β × γ) : Prop := la x.1 y.1 ∨ (x.1 = y.1 ∧ (lb x.2.1 y.2.1 ∨ (x.2.1 = y.2.1 ∧ lc x.2.2 y.2.2)))
theorem tri_so {α β γ : Type} {la : α → α → Prop} {lb : β → β → Prop} {lc : γ → γ → Prop} (A : SO la) (B : SO lb) (C : SO lc) : SO (tri la lb lc) := by
  refine ⟨fun a h => ?_, fun {a b c} h1 h2 => ?_, fun {a b} h => ?_⟩
  · rcases h with h | ⟨_, h | ⟨_, h⟩⟩
    · exact A.ir _ h
    · exact B.ir _ h
    · exact C.ir _ h
  · rcases h1 with h1 | ⟨e1, h1⟩
    · rcases h2 with h2 | ⟨e2, h2⟩
      · exact .inl (A.tr h1 h2)
      · exact .inl (by rw [← e2]; exact h1)
    · rcases h2 with h2 | ⟨e2, h2⟩
      · exact .inl (by rw [e1]; exact h2)
      · refine .inr ⟨e1.trans e2, ?_⟩
        rcases h1 with h1 | ⟨f1, h1⟩
        · rcases h2 with h2 | ⟨f2, h2⟩
          · exact .inl (B.tr h1 h2)
          · exact .inl (by rw [← f2]; exact h1)
        · rcases h2 with h2 | ⟨f2, h2⟩
          · exact .inl (by rw [f1]; exact h2)
          · exact .inr ⟨f1.trans f2, C.tr h1 h2⟩
  · by_cases e1 : a.1 = b.1
    · by_cases e2 : a.2.1 = b.2.1
      · have e3 : a.2.2 ≠ b.2.2 := fun e => h (by
          obtain ⟨x, y, z⟩ := a; obtain ⟨x', y', z'⟩ := b
          simp only at e1 e2 e; subst e1; subst e2; subst e; rfl)
        rcases C.to e3 with q | q
        · exact .inl (.inr ⟨e1, .inr ⟨e2, q⟩⟩)
        · exact .inr (.inr ⟨e1.symm, .inr ⟨e2.symm, q⟩⟩)
      · rcases B.to e2 with q | q
        · exact .inl (.inr ⟨e1, .inl q⟩)
        · exact .inr (.inr ⟨e1.symm, .inl q⟩)
    · rcases A.to e1 with q | q
      · exact .inl (.inl q)
      · exact .inr (.inl q)
theorem rat_so : SO (fun a b : Rat => a < b) := ⟨fun a => Rat.lt_irrefl, fun {a b c} h1 h2 => by grind, fun {a b} h => by grind⟩
theorem int_so : SO (fun a b : Int => a < b) := ⟨fun a => Int.lt_irrefl a, fun {a b c} h1 h2 => Int.lt_trans h1 h2, fun {a b} h => by omega⟩
def sLt (a b : Str) : Prop := a.cps.toList < b.cps.toList
instance (a b : Str) : Decidable (sLt a b) := by unfold sLt; infer_instance
theorem str_ext {a b : Str} (h : a.cps.toList = b.cps.toList) : a = b := by
  cases a; cases b
  simp only at h
  congr 1
  exact Array.toList_inj.mp h
theorem str_so : SO sLt := by
  refine ⟨fun a => List.lt_irrefl _, fun {a b c} h1 h2 => List.lt_trans h1 h2, fun {a b} h => ?_⟩
  have hne : a.cps.toList ≠ b.cps.toList := fun e => h (str_ext e)
  by_cases q : a.cps.toList < b.cps.toList
  · exact .inl q
  · have q2 : b.cps.toList ≤ a.cps.toList := List.not_lt.mp q
    rcases List.le_iff_lt_or_eq.mp q2 with q3 | q3
    · exact .inr q3
    · exact absurd q3.symm hne
end Sm

set_option exponentiation.threshold 20000
namespace Sm
open PySem L2 Cg
/-! ### bells -/
structure Bell where
  m : Rat
  h : Str
  f : Str
def Bell.d (b : Bell) : PyData := .tuple [qD b.m, .str b.h, .str b.f]
@[simp] theorem bell_fold (m : Rat) (h f : Str) : PyData.tuple [qD m, .str h, .str f] = (Bell.mk m h f).d := rfl
def bLt (a b : Bell) : Prop := tri (fun a b : Rat => a < b) sLt sLt (a.m, a.h, a.f) (b.m, b.h, b.f)
def bLtb (a b : Bell) : Bool := if a.m < b.m then true else if b.m < a.m then false else if a.h = b.h then decide (sLt a.f b.f) else decide (sLt a.h b.h)
theorem bell_ext {a b : Bell} (h1 : a.m = b.m) (h2 : a.h = b.h) (h3 : a.f = b.f) : a = b := by
  cases a; cases b; simp only at h1 h2 h3; subst h1; subst h2; subst h3; rfl
theorem bLt_so : SO bLt := by
  have O := tri_so rat_so str_so str_so
  refine ⟨fun a => O.ir _, fun {a b c} h1 h2 => O.tr h1 h2, fun {a b} h => O.to fun e => h ?_⟩
  simp only [Prod.mk.injEq] at e
  exact bell_ext e.1 e.2.1 e.2.2
theorem bLtb_iff (a b : Bell) : bLtb a b = true ↔ bLt a b := by
  unfold bLtb bLt tri
  simp only
  by_cases h1 : a.m < b.m
  · simp [h1]
  · by_cases h2 : b.m < a.m
    · have : a.m ≠ b.m := fun e => by rw [e] at h2; exact Rat.lt_irrefl h2
      simp [h1, h2, this]
    · have e : a.m = b.m := by grind
      by_cases h3 : a.h = b.h
      · rw [if_neg h1, if_neg h2, if_pos h3]
        simp [e, Rat.lt_irrefl, h3, str_so.ir]
      · rw [if_neg h1, if_neg h2, if_neg h3]
        simp [e, Rat.lt_irrefl, h3]
structure BOk (b : Bell) : Prop where
  m : Sz 3500 b.m
  h : PyData.strOk b.h = true
  f : PyData.strOk b.f = true
@[simp] theorem ev_b0 (b : Bell) : subR (.da b.d) (.da (.int 0)) = some (.da (qD b.m)) := rfl
@[simp] theorem ev_b1 (b : Bell) : subR (.da b.d) (.da (.int 1)) = some (.da (.str b.h)) := rfl
@[simp] theorem ev_b2 (b : Bell) : subR (.da b.d) (.da (.int 2)) = some (.da (.str b.f)) := rfl
@[simp] theorem ev_isNb (b : Bell) : isN b.d = false := rfl
@[simp] theorem ev_ltS (a b : Str) : ltR (.da (.str a)) (.da (.str b)) = some (decide (sLt a b)) := rfl
theorem f_rings_eq {a b : Bell} (ha : BOk a) (hb : BOk b) : f_rings_ahead [.da a.d, .da b.d] = some (.ok (.da (.bool (bLtb a b))) []) := by
  have h1 := f_less_eq ha.m hb.m (by decide)
  have h2 := f_less_eq hb.m ha.m (by decide)
  have h3 := eqStr ha.h hb.h
  unfold bLtb
  by_cases c1 : a.m < b.m
  · simp [f_rings_ahead, b_rings_ahead, h1, c1]
  · by_cases c2 : b.m < a.m
    · simp [f_rings_ahead, b_rings_ahead, h1, h2, c1, c2]
    · by_cases c3 : a.h = b.h
      · simp [f_rings_ahead, b_rings_ahead, h1, h2, c1, c2, c3, eqStr hb.h hb.h]
      · simp [f_rings_ahead, b_rings_ahead, h1, h2, c1, c2, h3, c3]
def bsD (rows : List Bell) : List PyData := rows.map Bell.d
theorem bs_len (rows : List Bell) : (bsD rows).length = rows.length := by simp [bsD]
theorem bs_get (rows : List Bell) (i : Nat) : atI (bsD rows) ((i : Nat) : Int) = rows[i]?.map Bell.d := by rw [atI_nat]; unfold bsD; rw [List.getElem?_map]
abbrev bk (h f : Str) : List Key := [.inr h, .inr f]
abbrev bellsR (rows : List Bell) (due : List (List Key × PyData)) : Rs := .ins "Bells" [("rows", .lst (bsD rows)), ("due", .dtt due)]
theorem f_Bells_init : f_Bells___init__ [.ins "Bells" []] = some (.ok (.da .none) [bellsR [] []]) := by
  simp [f_Bells___init__, b_Bells___init__, bsD]
def spotB (rows : List Bell) (b : Bell) : Nat := (rows.takeWhile (bLtb · b)).length
theorem f_spot_eq {rows : List Bell} {due : List (List Key × PyData)} {b : Bell} (hs : rows.Pairwise bLt) (ha : ∀ x ∈ rows, BOk x) (hb : BOk b) (hn : rows.length < 1000000) :
    f_Bells_spot [bellsR rows due, .da b.d] = some (.ok (.da (.int (spotB rows b : Nat))) []) := by
  obtain ⟨i1, i2⟩ := ix_lt bLt_so (p := (bLtb · b)) (fun a => bLtb_iff a b) hs
  unfold f_Bells_spot b_Bells_spot
  refine bodyF_go (by simp; rfl) (by rfl) ?_
  (first | apply seqE | apply seqO); focus (simp (disch := first | assumption | omega) [decT, decF]; rfl)
  (first | apply seqE | apply seqO); focus (simp (disch := first | assumption | omega) [decT, decF, bs_len]; rfl)
  have lp := bisA (t := cm2 ltR (varC 2) (varC 3)) (b := w_Bells_spot_0) (fun lo hi => [.bo (bellsR rows due), .bo (.da b.d), .ow (.da (.int (lo : Int))), .ow (.da (.int (hi : Int))), .un]) (fun i => if h : i < rows.length then bLtb rows[i] b else false) (spotB rows b) rows.length (tw_len _ _)
    (fun i hi => by
      have h : i < rows.length := Nat.lt_of_lt_of_le hi (tw_len _ _)
      simp only [dif_pos h]; exact i1 i h hi)
    (fun i hi h => by simp only [dif_pos h]; exact i2 i h hi)
    (fun lo hi _ _ => by simp)
    (fun lo hi hl hh => by
      have hd : divI (.da (.int ((lo : Int) + (hi : Int)))) (.da (.int 2)) = some (.da (.int (((lo + hi) / 2 : Nat) : Int))) := by
        rw [divS (by decide) (by decide)]; congr 3
      have hi' : (lo + hi) / 2 < rows.length := by omega
      generalize hmid : (lo + hi) / 2 = mid at hd hi' ⊢
      have hg : atI (bsD rows) ((mid : Nat) : Int) = some (rows[mid]).d := by rw [bs_get, List.getElem?_eq_getElem hi']; rfl
      have hr := f_rings_eq (ha _ (List.getElem_mem hi')) hb
      simp only [dif_pos hi']
      cases hc : bLtb rows[mid] b with
      | true =>
        rw [hc] at hr
        simp [w_Bells_spot_0, hd, hg, hr]
      | false =>
        rw [hc] at hr
        simp [w_Bells_spot_0, hd, hg, hr])
  simp only [Int.ofNat_zero, Int.cast_ofNat_Int] at lp
  (first | apply seqE | apply seqO); focus (simp (disch := first | assumption | omega) [decT, decF, lp]; rfl)
  simp
theorem insF_eq {ds : List PyData} {d : PyData} {k : Nat} (h : ds.length < 1000000) (hk : k < 1000000) : insF ds [.int (k : Nat), d] = some (.none, ds.take k ++ [d] ++ ds.drop k) := by
  unfold insF
  simp only
  rw [if_pos ⟨by unfold sizeLine; omega, by omega, by omega⟩, Int.toNat_natCast]
theorem popIF_eq {ds : List PyData} {d : PyData} {k : Nat} (h : ds[k]? = some d) (hk : ds.length < 1000000) : popIF ds [.int (k : Nat)] = some (d, ds.eraseIdx k) := by
  have hl : k < ds.length := (List.getElem?_eq_some_iff.mp h).1
  unfold popIF
  simp only
  rw [if_pos ⟨by omega, by omega⟩]
  have e : seqIndex? ((k : Nat) : Int) ds.length = some k := by
    unfold seqIndex?
    have h0 : ¬ ((k : Nat) : Int) < 0 := by omega
    simp [h0, hl]
  rw [e]
  simp only [h, Option.map_some]
/-! ### one bell of each pair -/
def Bell.kv (b : Bell) : List Key × PyData := (bk b.h b.f, qD b.m)
def pairB (b : Bell) : Str × Str := (b.h, b.f)
structure BellsOk (rows : List Bell) (due : List (List Key × PyData)) : Prop where
  so : rows.Pairwise bLt
  ok : ∀ b ∈ rows, BOk b
  un : (rows.map pairB).Nodup
  du : due.Perm (rows.map Bell.kv)
  ln : rows.length < 100000
theorem keys_nd {rows : List Bell} (h : (rows.map pairB).Nodup) : ((rows.map Bell.kv).map (·.1)).Nodup := by
  rw [List.map_map]
  have e : ((fun x => x.1) ∘ Bell.kv) = (fun p : Str × Str => bk p.1 p.2) ∘ pairB := rfl
  rw [e, ← List.map_map]
  refine List.Pairwise.map _ (fun a b hab => ?_) h
  intro z
  simp only [List.cons.injEq, Sum.inr.injEq, and_true] at z
  exact hab (Prod.ext z.1 z.2)
theorem valT_mem {k : List Key} {y : PyData} : ∀ {kvs : List (List Key × PyData)}, (kvs.map (·.1)).Nodup → (k, y) ∈ kvs → valT k kvs = some y
  | [], _, h => by simp at h
  | (k', y') :: r, hn, h => by
    rw [valT]
    obtain ⟨h1, h2⟩ := List.nodup_cons.mp hn
    rcases List.mem_cons.mp h with e | e
    · cases e; rw [if_pos rfl]
    · have : k' ≠ k := fun z => h1 (by rw [z]; exact List.mem_map.mpr ⟨_, e, rfl⟩)
      rw [if_neg this]; exact valT_mem h2 e
theorem valT_none {k : List Key} : ∀ {kvs : List (List Key × PyData)}, (∀ p ∈ kvs, p.1 ≠ k) → valT k kvs = none
  | [], _ => rfl
  | (k', y') :: r, h => by
    have : k' ≠ k := h (k', y') (by simp)
    rw [valT, if_neg this]; exact valT_none fun p m => h p (by simp [m])
theorem BellsOk.yes {rows : List Bell} {due : List (List Key × PyData)} (B : BellsOk rows due) {b : Bell} (hb : b ∈ rows) : valT (bk b.h b.f) due = some (qD b.m) :=
  valT_mem ((B.du.map (·.1)).nodup_iff.mpr (keys_nd B.un)) (B.du.mem_iff.mpr (List.mem_map.mpr ⟨b, hb, rfl⟩))
theorem BellsOk.no {rows : List Bell} {due : List (List Key × PyData)} (B : BellsOk rows due) {h f : Str} (hb : ∀ b ∈ rows, ¬ (b.h = h ∧ b.f = f)) : valT (bk h f) due = none :=
  valT_none fun p hp => by
    obtain ⟨b, hm, rfl⟩ := List.mem_map.mp (B.du.mem_iff.mp hp)
    intro z
    simp only [Bell.kv, List.cons.injEq, Sum.inr.injEq, and_true] at z
    exact hb b hm z
def isP (h f : Str) (b : Bell) : Bool := decide (b.h = h) && decide (b.f = f)
def dropB (rows : List Bell) (h f : Str) : List Bell := rows.filter fun b => !isP h f b
theorem mem_dropB {rows : List Bell} {h f : Str} {b : Bell} : b ∈ dropB rows h f ↔ b ∈ rows ∧ ¬ (b.h = h ∧ b.f = f) := by
  unfold dropB isP
  rw [List.mem_filter]
  by_cases h1 : b.h = h <;> by_cases h2 : b.f = f <;> simp [h1, h2]
theorem split_at_mem {rows : List Bell} (hs : rows.Pairwise bLt) {b : Bell} (hb : b ∈ rows) : ∃ B, rows = rows.takeWhile (bLtb · b) ++ b :: B := by
  have key : ∀ {l : List Bell}, l.Pairwise bLt → b ∈ l → ∃ B, l = l.takeWhile (bLtb · b) ++ b :: B := by
    intro l
    induction l with
    | nil => intro _ h; simp at h
    | cons x l ih =>
      intro hl hm
      obtain ⟨p1, q1⟩ := List.pairwise_cons.mp hl
      rcases List.mem_cons.mp hm with rfl | hm
      · have : bLtb b b = false := by
          cases h : bLtb b b with
          | false => rfl
          | true => exact absurd ((bLtb_iff b b).mp h) (bLt_so.ir b)
        exact ⟨l, by simp [List.takeWhile_cons, this]⟩
      · obtain ⟨B, e⟩ := ih q1 hm
        have : bLtb x b = true := (bLtb_iff x b).mpr (p1 b hm)
        refine ⟨B, ?_⟩
        rw [List.takeWhile_cons]
        simp only [this, if_true]
        rw [List.cons_append, ← e]
  exact key hs hb
theorem drop_split {rows : List Bell} {A B : List Bell} {b : Bell} (e : rows = A ++ b :: B) (hn : (rows.map pairB).Nodup) : dropB rows b.h b.f = A ++ B := by
  subst e
  rw [List.map_append, List.map_cons] at hn
  obtain ⟨n1, n2, n3⟩ := List.nodup_append.mp hn
  obtain ⟨n4, n5⟩ := List.nodup_cons.mp n2
  unfold dropB
  have h1 : ∀ x ∈ A, (!isP b.h b.f x) = true := fun x hx => by
    have : pairB x ≠ pairB b := fun z => n3 _ (List.mem_map.mpr ⟨x, hx, rfl⟩) _ (by simp) z
    cases hq : isP b.h b.f x with
    | false => rfl
    | true =>
      unfold isP at hq
      simp at hq
      exact absurd (Prod.ext hq.1 hq.2) this
  have h2 : ∀ x ∈ B, (!isP b.h b.f x) = true := fun x hx => by
    have : pairB x ≠ pairB b := fun z => n4 (by rw [← z]; exact List.mem_map.mpr ⟨x, hx, rfl⟩)
    cases hq : isP b.h b.f x with
    | false => rfl
    | true =>
      unfold isP at hq
      simp at hq
      exact absurd (Prod.ext hq.1 hq.2) this
  rw [List.filter_append, List.filter_eq_self.mpr h1, List.filter_cons_of_neg (by simp [isP]), List.filter_eq_self.mpr h2]
theorem dropB_ok {rows : List Bell} {due : List (List Key × PyData)} (B : BellsOk rows due) (h f : Str) : BellsOk (dropB rows h f) (dropT (bk h f) due) := by
  have sub : (dropB rows h f).Sublist rows := List.filter_sublist
  refine ⟨B.so.sublist sub, fun b hb => B.ok b (sub.subset hb), (sub.map _).nodup B.un, ?_, Nat.lt_of_le_of_lt sub.length_le B.ln⟩
  unfold dropT dropB
  refine (B.du.filter _).trans ?_
  rw [List.filter_map]
  refine List.Perm.of_eq ?_
  congr 1
  refine List.filter_congr fun b _ => ?_
  show decide ((b.kv).1 ≠ bk h f) = !isP h f b
  unfold isP Bell.kv
  by_cases h1 : b.h = h <;> by_cases h2 : b.f = f <;> simp [h1, h2]
theorem dropB_none {rows : List Bell} {h f : Str} (hb : ∀ b ∈ rows, ¬ (b.h = h ∧ b.f = f)) : dropB rows h f = rows := by
  unfold dropB
  refine List.filter_eq_self.mpr fun b hm => ?_
  have := hb b hm
  unfold isP
  by_cases h1 : b.h = h <;> by_cases h2 : b.f = f <;> simp [h1, h2] at this ⊢
@[simp] theorem ev_keys2 (h f : Str) : keysD [.str h, .str f] = some (bk h f) := rfl
@[simp] theorem ev_inT2 (h f : Str) (due : List (List Key × PyData)) : inR (.da (.tuple [.str h, .str f])) (.dtt due) = some (valT (bk h f) due).isSome := rfl
@[simp] theorem ev_notIn (a b : Rs) : notInR a b = (inR a b).map (!·) := rfl
/-- drop -/
theorem f_drop_eq {rows : List Bell} {due : List (List Key × PyData)} (B : BellsOk rows due) (h f : Str) : ∃ due', f_Bells_drop [bellsR rows due, .da (.str h), .da (.str f)] = some (.ok (.da (.bool (rows.any (isP h f)))) [bellsR (dropB rows h f) due']) ∧ BellsOk (dropB rows h f) due' := by
  by_cases hb : ∃ b ∈ rows, b.h = h ∧ b.f = f
  · obtain ⟨b, hm, rfl, rfl⟩ := hb
    refine ⟨dropT (bk b.h b.f) due, ?_, dropB_ok B _ _⟩
    have hv := B.yes hm
    obtain ⟨R, e⟩ := split_at_mem B.so hm
    have any : rows.any (isP b.h b.f) = true := List.any_eq_true.mpr ⟨b, hm, by simp [isP]⟩
    rw [any]
    unfold f_Bells_drop b_Bells_drop
    refine bodyF_go (by simp; rfl) (by rfl) ?_
    (first | apply seqE | apply seqO); focus (simp (disch := first | assumption | omega) [decT, decF, hv]; rfl)
    (first | apply seqE | apply seqO); focus (simp (disch := first | assumption | omega) [decT, decF, hv]; rfl)
    have sp := f_spot_eq (due := dropT (bk b.h b.f) due) B.so B.ok (B.ok b hm) (by have := B.ln; omega)
    have hg : (bsD rows)[spotB rows b]? = some b.d := by
      unfold bsD
      rw [List.getElem?_map]
      have : rows[spotB rows b]? = some b := by
        unfold spotB
        conv => lhs; rw [show rows = rows.takeWhile (bLtb · b) ++ b :: R from e]
        rw [List.getElem?_append_right (by rw [← e]; exact Nat.le_refl _)]
        rw [← e]; simp
      rw [this]; rfl
    have hp := popIF_eq hg (by rw [bs_len]; have := B.ln; omega)
    have he : (bsD rows).eraseIdx (spotB rows b) = bsD (dropB rows b.h b.f) := by
      rw [drop_split e B.un]
      unfold bsD spotB
      conv => lhs; arg 1; rw [e]
      rw [List.map_append, List.map_cons, List.eraseIdx_append_of_length_le (by simp)]
      simp
    rw [he] at hp
    (first | apply seqE | apply seqO); focus (simp (disch := first | assumption | omega) [decT, decF, show PyData.tuple [qD b.m, .str b.h, .str b.f] = b.d from rfl, sp, hp]; rfl)
    simp
  · have hb' : ∀ b ∈ rows, ¬ (b.h = h ∧ b.f = f) := fun b hm z => hb ⟨b, hm, z⟩
    refine ⟨due, ?_, by rw [dropB_none hb']; exact B⟩
    have any : rows.any (isP h f) = false := by
      rw [List.any_eq_false]
      intro b hm
      have := hb' b hm
      unfold isP
      by_cases h1 : b.h = h <;> by_cases h2 : b.f = f <;> simp [h1, h2] at this ⊢
    rw [any, dropB_none hb']
    simp [f_Bells_drop, b_Bells_drop, B.no hb']
theorem insS_perm {α : Type} {p : α → Bool} {x : α} {l : List α} : (insS p x l).Perm (x :: l) := by
  unfold insS
  refine List.perm_middle.trans ?_
  rw [List.takeWhile_append_dropWhile]
def putB (rows : List Bell) (m : Rat) (h f : Str) : List Bell := insS (bLtb · ⟨m, h, f⟩) ⟨m, h, f⟩ (dropB rows h f)
theorem mem_putB {rows : List Bell} {m : Rat} {h f : Str} {b : Bell} : b ∈ putB rows m h f ↔ b = ⟨m, h, f⟩ ∨ (b ∈ rows ∧ ¬ (b.h = h ∧ b.f = f)) := by
  unfold putB; rw [mem_insS, mem_dropB]
theorem ins_bs (rows : List Bell) (b : Bell) : (bsD rows).take (spotB rows b) ++ [b.d] ++ (bsD rows).drop (spotB rows b) = bsD (insS (bLtb · b) b rows) := by
  have e : rows = rows.takeWhile (bLtb · b) ++ rows.dropWhile (bLtb · b) := List.takeWhile_append_dropWhile.symm
  unfold bsD insS
  rw [← List.map_take, ← List.map_drop, List.append_assoc, List.map_append, List.map_cons]
  have h1 : rows.take (spotB rows b) = rows.takeWhile (bLtb · b) := (congrArg (List.take (spotB rows b)) e).trans (List.take_left' rfl)
  have h2 : rows.drop (spotB rows b) = rows.dropWhile (bLtb · b) := (congrArg (List.drop (spotB rows b)) e).trans (List.drop_left' rfl)
  rw [h1, h2]; rfl
theorem setT_new {k : List Key} {y : PyData} {kvs : List (List Key × PyData)} (h : ∀ p ∈ kvs, p.1 ≠ k) : setT k y kvs = kvs ++ [(k, y)] := by
  unfold setT
  rw [if_neg]
  intro z
  obtain ⟨p, hp, hq⟩ := List.any_eq_true.mp z
  exact h p hp (by simpa using hq)
theorem f_put_eq {rows : List Bell} {due : List (List Key × PyData)} (B : BellsOk rows due) {m : Rat} {h f : Str} (hb : BOk ⟨m, h, f⟩) (hn : rows.length < 99999) : ∃ due', f_Bells_put [bellsR rows due, .da (qD m), .da (.str h), .da (.str f)] = some (.ok (.da .none) [bellsR (putB rows m h f) due']) ∧ BellsOk (putB rows m h f) due' := by
  obtain ⟨d1, e1, B1⟩ := f_drop_eq B h f
  have nodup : ∀ b ∈ dropB rows h f, ¬ (b.h = h ∧ b.f = f) := fun b hm => (mem_dropB.mp hm).2
  have hl : (dropB rows h f).length ≤ rows.length := List.length_filter_le _ _
  have hk : ∀ p ∈ d1, p.1 ≠ bk h f := fun p hp => by
    obtain ⟨b, hm, rfl⟩ := List.mem_map.mp (B1.du.mem_iff.mp hp)
    intro z
    simp only [Bell.kv, List.cons.injEq, Sum.inr.injEq, and_true] at z
    exact nodup b hm z
  have hd1 : d1.length = (dropB rows h f).length := by rw [B1.du.length_eq, List.length_map]
  refine ⟨d1 ++ [(bk h f, qD m)], ?_, ⟨?_, ?_, ?_, ?_, ?_⟩⟩
  · have sp := f_spot_eq (due := d1) B1.so B1.ok hb (by have := B1.ln; omega)
    have hi := insF_eq (ds := bsD (dropB rows h f)) (d := (Bell.mk m h f).d) (k := spotB (dropB rows h f) ⟨m, h, f⟩) (by rw [bs_len]; have := B1.ln; omega) (by have := tw_len (bLtb · ⟨m, h, f⟩) (dropB rows h f); have := B1.ln; unfold spotB; omega)
    rw [ins_bs] at hi
    have hs := setT_new (y := qD m) hk
    have hz : d1.length < sizeLine := by have := B1.ln; unfold sizeLine; omega
    unfold f_Bells_put b_Bells_put
    refine bodyF_go (by simp; rfl) (by rfl) ?_
    (first | apply seqE | apply seqO); focus (simp (disch := first | assumption | omega) [decT, decF, e1]; rfl)
    (first | apply seqE | apply seqO); focus (simp (disch := first | assumption | omega) [decT, decF, show PyData.tuple [qD m, .str h, .str f] = (Bell.mk m h f).d from rfl]; rfl)
    (first | apply seqE | apply seqO); focus (simp (disch := first | assumption | omega) [decT, decF, sp, hi]; rfl)
    simp [hs, hz, putB]
  · exact insS_sorted bLt_so (fun a => bLtb_iff a _) B1.so fun z => nodup _ z ⟨rfl, rfl⟩
  · intro b hm
    rcases mem_insS.mp hm with rfl | hm
    · exact hb
    · exact B1.ok b hm
  · refine ((insS_perm.map pairB).nodup_iff).mpr (List.nodup_cons.mpr ⟨fun z => ?_, B1.un⟩)
    obtain ⟨b, hm, e⟩ := List.mem_map.mp z
    have : b.h = h ∧ b.f = f := ⟨congrArg Prod.fst e, congrArg Prod.snd e⟩
    exact nodup b hm this
  · have p1 : ((insS (bLtb · ⟨m, h, f⟩) ⟨m, h, f⟩ (dropB rows h f)).map Bell.kv).Perm ((Bell.mk m h f).kv :: (dropB rows h f).map Bell.kv) := insS_perm.map Bell.kv
    refine List.Perm.trans ?_ p1.symm
    refine (List.perm_append_comm).trans ?_
    exact (B1.du.cons _)
  · unfold putB; rw [len_insS]; omega
def firstB (rows : List Bell) : PyData := match rows with
  | [] => .none
  | b :: _ => b.d
theorem f_first_eq (rows : List Bell) (due : List (List Key × PyData)) : f_Bells_first [bellsR rows due] = some (.ok (.da (firstB rows)) []) := by
  cases rows with
  | nil => simp [f_Bells_first, b_Bells_first, bs_len, firstB]
  | cons b r =>
    have : ¬ (((r.length : Nat) : Int) + 1 = 0) := by omega
    simp [f_Bells_first, b_Bells_first, bs_len, firstB, this, show atI (bsD (b :: r)) 0 = some b.d from atI0 _ _]
theorem f_told_eq (rows : List Bell) (due : List (List Key × PyData)) : f_Bells_told [bellsR rows due] = some (.ok (.lst (bsD rows)) []) := by
  simp [f_Bells_told, b_Bells_told]
theorem drop_head {b : Bell} {r : List Bell} (hn : ((b :: r).map pairB).Nodup) : dropB (b :: r) b.h b.f = r := drop_split (A := []) rfl hn
theorem f_take_eq {rows : List Bell} {due : List (List Key × PyData)} (B : BellsOk rows due) : ∃ due', f_Bells_take [bellsR rows due] = some (.ok (.da (firstB rows)) [bellsR rows.tail due']) ∧ BellsOk rows.tail due' := by
  cases rows with
  | nil =>
    refine ⟨due, ?_, B⟩
    simp [f_Bells_take, b_Bells_take, f_first_eq, firstB]
  | cons b r =>
    obtain ⟨d1, e1, B1⟩ := f_drop_eq B b.h b.f
    rw [drop_head B.un] at e1 B1
    refine ⟨d1, ?_, B1⟩
    unfold f_Bells_take b_Bells_take
    refine bodyF_go (by simp; rfl) (by rfl) ?_
    (first | apply seqE | apply seqO); focus (simp (disch := first | assumption | omega) [decT, decF, f_first_eq, firstB]; rfl)
    (first | apply seqE | apply seqO); focus (simp (disch := first | assumption | omega) [decT, decF, e1]; rfl)
    simp [firstB]
end Sm

set_option exponentiation.threshold 20000
namespace Sm
open PySem L2 Cg
/-! ### the laws' names -/
def sgS : Str := "abcdefghijklmnopqrstuvwxyz0123456789"
def sgs : List Nat := sgS.cps.toList
theorem sgs_len : sgs.length = 36 := by decide +kernel
def sgn (k : Int) : Nat := sgs.getD k.toNat 0
def ch (c : Nat) : Str := ⟨#[c]⟩
def mkS (cs : List Nat) : Str := ⟨cs.toArray⟩
theorem mkS_inj {a b : List Nat} (h : mkS a = mkS b) : a = b := by
  have := congrArg (fun z : Str => z.cps.toList) h
  simpa [mkS] using this
theorem atI_sgn {k : Int} (h0 : 0 ≤ k) (h1 : k < 36) : atI sgS.cps.toList k = some (sgn k) := by
  obtain ⟨n, rfl⟩ := Int.eq_ofNat_of_zero_le h0
  have hn : n < sgs.length := by rw [sgs_len]; omega
  show atI sgs ((n : Nat) : Int) = some (sgs.getD ((n : Nat) : Int).toNat 0)
  rw [atI_nat, Int.toNat_natCast, List.getElem?_eq_getElem hn, List.getD_eq_getElem?_getD, List.getElem?_eq_getElem hn]
  rfl
theorem joinL_ch : ∀ cs : List Nat, TL.joinL [] ((cs.map ch).map TL.tl) = cs
  | [] => rfl
  | [_] => rfl
  | a :: b :: r => by
    show [a] ++ ([] ++ TL.joinL [] (((b :: r).map ch).map TL.tl)) = a :: b :: r
    rw [joinL_ch (b :: r)]
    rfl
theorem join_ch (cs : List Nat) : Txt.join (Str.ofString "") (cs.map ch) = mkS cs := by
  rw [TL.join_eq]
  refine TL.ext_tl ?_
  rw [TL.tl_join]
  have e : TL.tl (Str.ofString "") = [] := by decide +kernel
  rw [e, joinL_ch]
  simp [mkS, TL.tl]
theorem sum_ch : ∀ cs : List Nat, ((cs.map ch).map (·.length)).sum = cs.length
  | [] => rfl
  | c :: cs => by
    rw [List.map_cons, List.map_cons, List.sum_cons, sum_ch cs, List.length_cons]
    show 1 + cs.length = _
    omega
def nm12 : List Str := ["m", "ab", "a", "zebra9", "b0", "0", "abc", "9zz", "q7q7q7q7", "aa", "z", "a1b2c3d4"]
def nbody (r0 r2 : Int) (bs : List Int) : List Nat := if r0 = 1 then (bs.map sgn).take (r2.toNat + 1) else bs.map sgn
def namesR (r0 r1 r2 : Int) (bs : List Int) (r11 : Int) (many : Nat) : List Str :=
  if r0 = 0 ∧ many ≤ 12 then (List.range many).map fun k => nm12.getD ((r1 + 5 * (k : Nat)) % 12).toNat ⟨#[]⟩
  else (List.range many).map fun k => mkS ((nbody r0 r2 bs).set (r11 % ((nbody r0 r2 bs).length : Nat)).toNat (sgn ((r1 + 5 * (k : Nat)) % 36)))
def namesL (c : Int) (many : Nat) : List Str := match digits c [3, 36, 8, 36, 36, 36, 36, 36, 36, 36, 36, 840] with
  | [r0, r1, r2, b0, b1, b2, b3, b4, b5, b6, b7, r11] => namesR r0 r1 r2 [b0, b1, b2, b3, b4, b5, b6, b7] r11 many
  | _ => []
theorem at_nm12 {k : Int} (h0 : 0 ≤ k) (h1 : k < 12) : atI (nm12.map PyData.str) k = some (.str (nm12.getD k.toNat ⟨#[]⟩)) := by
  obtain ⟨n, rfl⟩ := Int.eq_ofNat_of_zero_le h0
  have hn : n < nm12.length := by show n < 12; omega
  rw [atI_nat, Int.toNat_natCast, List.getElem?_map, List.getElem?_eq_getElem hn, List.getD_eq_getElem?_getD, List.getElem?_eq_getElem hn]
  rfl
theorem sgs_nodup : sgs.Nodup := by decide +kernel
theorem sgn_inj {a b : Int} (ha : 0 ≤ a) (ha' : a < 36) (hb : 0 ≤ b) (hb' : b < 36) (h : sgn a = sgn b) : a = b := by
  have la : a.toNat < sgs.length := by rw [sgs_len]; omega
  have lb : b.toNat < sgs.length := by rw [sgs_len]; omega
  unfold sgn at h
  rw [List.getD_eq_getElem?_getD, List.getElem?_eq_getElem la, List.getD_eq_getElem?_getD, List.getElem?_eq_getElem lb] at h
  have := (List.getElem_inj sgs_nodup).mp (by simpa using h)
  omega
theorem nm12_nodup : nm12.Nodup := by decide +kernel
theorem namesR_len (r0 r1 r2 : Int) (bs : List Int) (r11 : Int) (many : Nat) : (namesR r0 r1 r2 bs r11 many).length = many := by
  unfold namesR; split <;> simp
theorem namesR_nodup {r0 r1 r2 r11 : Int} {bs : List Int} {many : Nat} (hm : many ≤ 36) (hr1 : 0 ≤ r1) (hr2 : 0 ≤ r2) (hb : bs.length = 8) : (namesR r0 r1 r2 bs r11 many).Nodup := by
  unfold namesR
  split
  · rename_i h
    refine List.pairwise_map.mpr (List.Pairwise.imp_of_mem ?_ List.nodup_range)
    intro a b ha hb' hab e
    have ha : a < many := by simpa using ha
    have hb' : b < many := by simpa using hb'
    have m0 := Int.emod_nonneg (r1 + 5 * (a : Nat)) (show (12 : Int) ≠ 0 by decide)
    have m1 := Int.emod_lt_of_pos (r1 + 5 * (a : Nat)) (show (0 : Int) < 12 by decide)
    have k0 := Int.emod_nonneg (r1 + 5 * (b : Nat)) (show (12 : Int) ≠ 0 by decide)
    have k1 := Int.emod_lt_of_pos (r1 + 5 * (b : Nat)) (show (0 : Int) < 12 by decide)
    have la : ((r1 + 5 * (a : Nat)) % 12).toNat < nm12.length := by show _ < 12; omega
    have lb : ((r1 + 5 * (b : Nat)) % 12).toNat < nm12.length := by show _ < 12; omega
    rw [List.getD_eq_getElem?_getD, List.getElem?_eq_getElem la, List.getD_eq_getElem?_getD, List.getElem?_eq_getElem lb] at e
    have := (List.getElem_inj nm12_nodup).mp (by simpa using e)
    omega
  · refine List.pairwise_map.mpr (List.Pairwise.imp_of_mem ?_ List.nodup_range)
    intro a b ha hb' hab e
    have ha : a < many := by simpa using ha
    have hb' : b < many := by simpa using hb'
    have hl : 0 < (nbody r0 r2 bs).length := by
      unfold nbody
      split
      · rw [List.length_take, List.length_map, hb]; omega
      · rw [List.length_map, hb]; decide
    have e1 := mkS_inj e
    have hat1 := Int.emod_lt_of_pos r11 (show (0 : Int) < ((nbody r0 r2 bs).length : Nat) by omega)
    have hat0 := Int.emod_nonneg r11 (show (((nbody r0 r2 bs).length : Nat) : Int) ≠ 0 by omega)
    have e2 := congrArg (fun l => l[(r11 % ((nbody r0 r2 bs).length : Nat)).toNat]?) e1
    rw [List.getElem?_set_self (by omega), List.getElem?_set_self (by omega)] at e2
    have e3 : sgn ((r1 + 5 * (a : Nat)) % 36) = sgn ((r1 + 5 * (b : Nat)) % 36) := by simpa using e2
    have := sgn_inj (Int.emod_nonneg _ (by decide)) (Int.emod_lt_of_pos _ (by decide)) (Int.emod_nonneg _ (by decide)) (Int.emod_lt_of_pos _ (by decide)) e3
    omega

def GoodNm (n : Str) : Prop := 1 ≤ n.length ∧ n.length ≤ 8 ∧ ∀ c ∈ n.cps.toList, c ∈ sgs
theorem sgs_small : ∀ c ∈ sgs, c < 0x110000 := by decide +kernel
theorem GoodNm.ok {n : Str} (h : GoodNm n) : PyData.strOk n = true := by
  unfold PyData.strOk
  rw [Array.all_eq_true']
  intro c hc
  exact decide_eq_true (sgs_small c (h.2.2 c (by simpa using hc)))
theorem nm12_good : ∀ n ∈ nm12, GoodNm n := by unfold GoodNm; decide +kernel
theorem sgn_mem {k : Int} (h0 : 0 ≤ k) (h1 : k < 36) : sgn k ∈ sgs := by
  have hn : k.toNat < sgs.length := by rw [sgs_len]; omega
  unfold sgn
  rw [List.getD_eq_getElem?_getD, List.getElem?_eq_getElem hn]
  exact List.getElem_mem hn
theorem nbody_len {r0 r2 : Int} {bs : List Int} (hb : bs.length = 8) (h2 : 0 ≤ r2) : 1 ≤ (nbody r0 r2 bs).length ∧ (nbody r0 r2 bs).length ≤ 8 := by
  unfold nbody
  split
  · rw [List.length_take, List.length_map, hb]; omega
  · rw [List.length_map, hb]; decide
theorem namesR_good {r0 r1 r2 r11 : Int} {bs : List Int} {many : Nat} (hr1 : 0 ≤ r1) (hr2 : 0 ≤ r2) (hb : bs.length = 8) (hbs : ∀ b ∈ bs, 0 ≤ b ∧ b < 36) : ∀ n ∈ namesR r0 r1 r2 bs r11 many, GoodNm n := by
  intro n hn
  unfold namesR at hn
  split at hn
  · obtain ⟨k, hk, rfl⟩ := List.mem_map.mp hn
    have m0 := Int.emod_nonneg (r1 + 5 * (k : Nat)) (show (12 : Int) ≠ 0 by decide)
    have m1 := Int.emod_lt_of_pos (r1 + 5 * (k : Nat)) (show (0 : Int) < 12 by decide)
    have la : ((r1 + 5 * (k : Nat)) % 12).toNat < nm12.length := by show _ < 12; omega
    rw [List.getD_eq_getElem?_getD, List.getElem?_eq_getElem la]
    exact nm12_good _ (List.getElem_mem la)
  · obtain ⟨k, hk, rfl⟩ := List.mem_map.mp hn
    obtain ⟨l1, l2⟩ := nbody_len (r0 := r0) hb hr2
    have hs : sgn ((r1 + 5 * (k : Nat)) % 36) ∈ sgs := sgn_mem (Int.emod_nonneg _ (by decide)) (Int.emod_lt_of_pos _ (by decide))
    have hall : ∀ c ∈ nbody r0 r2 bs, c ∈ sgs := fun c hc => by
      have : c ∈ bs.map sgn := by
        unfold nbody at hc
        split at hc
        · exact List.mem_of_mem_take hc
        · exact hc
      obtain ⟨z, hz, rfl⟩ := List.mem_map.mp this
      exact sgn_mem (hbs z hz).1 (hbs z hz).2
    refine ⟨?_, ?_, fun c hc => ?_⟩
    · show 1 ≤ (mkS _).cps.size
      simp [mkS]; omega
    · show (mkS _).cps.size ≤ 8
      simp [mkS]; omega
    · have hc : c ∈ (nbody r0 r2 bs).set (r11 % ((nbody r0 r2 bs).length : Nat)).toNat (sgn ((r1 + 5 * (k : Nat)) % 36)) := by simpa [mkS] using hc
      rcases List.mem_or_eq_of_mem_set hc with h | h
      · exact hall c h
      · rw [h]; exact hs
def chsD (cs : List Nat) : List PyData := cs.map fun c => .str (ch c)
@[simp] theorem ev_subStr (z : Str) (i : Int) : subR (.da (.str z)) (.da (.int i)) = if z.length ≤ sizeLine then (atI z.cps.toList i).map fun c => .da (.str ⟨#[c]⟩) else none := rfl
theorem sub_sgS {k : Int} (h0 : 0 ≤ k) (h1 : k < 36) : subR (.da (.str "abcdefghijklmnopqrstuvwxyz0123456789")) (.da (.int k)) = some (.da (.str (ch (sgn k)))) := by
  rw [ev_subStr, if_pos (by decide +kernel)]
  have := atI_sgn h0 h1
  rw [show ("abcdefghijklmnopqrstuvwxyz0123456789" : Str).cps.toList = sgS.cps.toList from rfl, this]; rfl
theorem strs_ch : ∀ cs : List Nat, strsD (chsD cs) = some (cs.map ch)
  | [] => rfl
  | c :: cs => by
    show strsD (.str (ch c) :: chsD cs) = _
    rw [strsD, strs_ch cs]; rfl
theorem join_chs {cs : List Nat} {r : Rs} (hr : asL r = some (chsD cs)) (h : cs.length ≤ 1000) : joinR (.da (.str "")) r = some (.da (.str (mkS cs))) := by
  unfold joinR
  rw [hr]
  simp only
  rw [strs_ch]
  simp only
  rw [if_pos, join_ch]
  rw [sum_ch, List.length_map]
  show cs.length + cs.length * 0 ≤ _
  omega
@[simp] theorem ev_noO (ρ : En) : noO ρ = some none := rfl
def nsD (ns : List Str) : List PyData := ns.map .str
theorem ns_len (ns : List Str) : (nsD ns).length = ns.length := by simp [nsD]
theorem app_ns {ns : List Str} {n : Str} (h : ns.length < 1000000) : appF (nsD ns) [.str n] = some (.none, nsD (ns ++ [n])) := by
  rw [ev_app (by rw [ns_len]; unfold sizeLine; omega)]; simp [nsD]
theorem ns_get (ns : List Str) (i : Nat) : atI (nsD ns) ((i : Nat) : Int) = ns[i]?.map .str := by rw [atI_nat]; unfold nsD; rw [List.getElem?_map]
@[simp] theorem ev_cutL (ds : List PyData) (lo hi : Option Int) : cutR (.lst ds) lo hi = some (.lst (cutG ds lo hi)) := rfl
@[simp] theorem ev_cutD (ds : List PyData) (lo hi : Option Int) : cutR (.da (.list ds)) lo hi = some (.lst (cutG ds lo hi)) := rfl
theorem cut_nn {α : Type} (xs : List α) (a b : Nat) : cutG xs (some (a : Int)) (some (b : Int)) = (xs.drop (min a xs.length)).take (min b xs.length - min a xs.length) := by
  unfold cutG; rw [HT.sIx_nat, HT.sIx_nat]
theorem cut_to {α : Type} (xs : List α) (b : Nat) : cutG xs none (some (b : Int)) = xs.take b := by
  unfold cutG; rw [HT.sIx_none, HT.sIx_nat]
  simp only [List.drop_zero, Nat.sub_zero]
  rw [Nat.min_comm, List.take_eq_take_iff]
  simp [Nat.min_comm]
theorem cut_from {α : Type} (xs : List α) (a : Nat) : cutG xs (some (a : Int)) none = xs.drop a := by
  unfold cutG; rw [HT.sIx_none, HT.sIx_nat, List.take_of_length_le (by simp)]
  by_cases h : a ≤ xs.length
  · rw [Nat.min_eq_left h]
  · rw [Nat.min_eq_right (by omega), List.drop_of_length_le (by omega), List.drop_of_length_le (by omega)]
theorem chs_len (cs : List Nat) : (chsD cs).length = cs.length := by simp [chsD]
theorem f_names_eq (c : Int) {many : Nat} (hm : many ≤ 36) : ∃ nms : List Str, f_l_names [.da (.int c), .da (.int (many : Nat))] = some (.ok (.lst (nsD nms)) []) ∧ nms.length = many ∧ nms.Nodup ∧ ∀ n ∈ nms, GoodNm n := by
  obtain ⟨r0, r1, r2, b0, b1, b2, b3, b4, b5, b6, b7, r11, hd, h00, h01, h10, h11, h20, h21, g00, g01, g10, g11, g20, g21, g30, g31, g40, g41, g50, g51, g60, g61, g70, g71, hy0, hy1⟩ := dig12 c (t0 := 3) (t1 := 36) (t2 := 8) (t3 := 36) (t4 := 36) (t5 := 36) (t6 := 36) (t7 := 36) (t8 := 36) (t9 := 36) (t10 := 36) (t11 := 840) (by decide)
  let bs := [b0, b1, b2, b3, b4, b5, b6, b7]
  have hbs : ∀ b ∈ bs, 0 ≤ b ∧ b < 36 := by
    intro b hb
    simp [bs] at hb
    rcases hb with rfl | rfl | rfl | rfl | rfl | rfl | rfl | rfl <;> omega
  refine ⟨namesR r0 r1 r2 bs r11 many, ?_, namesR_len .., namesR_nodup hm h10 h20 rfl, namesR_good h10 h20 rfl hbs⟩
  have at11 : ∀ a0 a1 a2 a3 a4 a5 a6 a7 a8 a9 a10 a11 : PyData, atI [a0, a1, a2, a3, a4, a5, a6, a7, a8, a9, a10, a11] 11 = some a11 := fun _ _ _ _ _ _ _ _ _ _ _ _ => rfl
  unfold f_l_names b_l_names
  refine bodyF_go (by simp; rfl) (by rfl) ?_
  (first | apply seqE | apply seqO); focus (simp (disch := first | assumption | omega) [decT, decF]; rfl)
  (first | apply seqE | apply seqO); focus (simp (disch := first | assumption | omega) [decT, decF, hd]; rfl)
  by_cases hc : r0 = 0 ∧ many ≤ 12
  · obtain ⟨rfl, h12⟩ := hc
    have hm12 : (many : Int) ≤ 12 := by omega
    have it : itR (dtA (varC 1)) [.bo (.da (.int c)), .bo (.da (.int (many : Nat))), .ow (.da (.str "abcdefghijklmnopqrstuvwxyz0123456789")), .ow (.da (.list [.int 0, .int r1, .int r2, .int b0, .int b1, .int b2, .int b3, .int b4, .int b5, .int b6, .int b7, .int r11])), .ow (.da (.list (nm12.map .str))), .un, .un, .un, .un] = some (rngA 0 many) := by
      have := itR_n (sd := dtA (varC 1)) (ρ := [.bo (.da (.int c)), .bo (.da (.int (many : Nat))), .ow (.da (.str "abcdefghijklmnopqrstuvwxyz0123456789")), .ow (.da (.list [.int 0, .int r1, .int r2, .int b0, .int b1, .int b2, .int b3, .int b4, .int b5, .int b6, .int b7, .int r11])), .ow (.da (.list (nm12.map .str))), .un, .un, .un, .un]) (z := (many : Nat)) (by simp) (by omega) (by omega)
      rw [Int.toNat_natCast] at this
      exact this
    have lc := lcL_rng (i := 5) (sd := dtA (subC (varC 4) (dtV (op2 modI (op2 addR (subC (varC 3) (cstC (.int 1))) (op2 mulR (vD (cstC (.int 5))) (varC 5))) (vD (cstC (.int 12))))))) (ρ := [.bo (.da (.int c)), .bo (.da (.int (many : Nat))), .ow (.da (.str "abcdefghijklmnopqrstuvwxyz0123456789")), .ow (.da (.list [.int 0, .int r1, .int r2, .int b0, .int b1, .int b2, .int b3, .int b4, .int b5, .int b6, .int b7, .int r11])), .ow (.da (.list (nm12.map .str))), .un, .un, .un, .un]) (fun k => .str (nm12.getD ((r1 + 5 * (k : Nat)) % 12).toNat ⟨#[]⟩)) many (fun k hk => by
      have hn := at_nm12 (k := (r1 + 5 * (k : Nat)) % 12) (Int.emod_nonneg _ (by decide)) (Int.emod_lt_of_pos _ (by decide))
      (simp (disch := first | assumption | omega) [decT, decF, atI1, mulS, modS, hn]))
    simp only [nm12, List.map_cons, List.map_nil] at it lc
    have e : namesR 0 r1 r2 bs r11 many = (List.range many).map fun k => nm12.getD ((r1 + 5 * (k : Nat)) % 12).toNat ⟨#[]⟩ := by unfold namesR; rw [if_pos ⟨rfl, h12⟩]
    rw [e]
    unfold nsD
    rw [List.map_map]
    simp [atI0, hm12, it, lc, show many ≤ 100000 by omega, nm12, Function.comp_def]
  · have hc' : ¬ (r0 = 0 ∧ (many : Int) ≤ 12) := fun z => hc ⟨z.1, by omega⟩
    have st3 : ∀ p : Bool, p = (decide (r0 = 0) && decide ((many : Int) ≤ 12)) → p = false := fun p hp => by
      rw [hp]
      by_cases z : r0 = 0
      · have : ¬ (many : Int) ≤ 12 := fun q => hc' ⟨z, q⟩
        simp [z, this]
      · simp [z]
    have e : namesR r0 r1 r2 bs r11 many = (List.range many).map fun k => mkS ((nbody r0 r2 bs).set (r11 % ((nbody r0 r2 bs).length : Nat)).toNat (sgn ((r1 + 5 * (k : Nat)) % 36))) := by unfold namesR; rw [if_neg hc]
    rw [e]
    clear e
    refine seqE (ρ1 := [.bo (.da (.int c)), .bo (.da (.int (many : Nat))), .ow (.da (.str "abcdefghijklmnopqrstuvwxyz0123456789")), .ow (.da (.list [.int r0, .int r1, .int r2, .int b0, .int b1, .int b2, .int b3, .int b4, .int b5, .int b6, .int b7, .int r11])), .un, .un, .un, .un, .un]) ?_ ?_
    · by_cases z : r0 = 0
      · have : ¬ (many : Int) ≤ 12 := fun q => hc' ⟨z, q⟩
        simp [atI0, z, this]
      · simp [atI0, z]
    have cut : cutG [PyData.int r0, .int r1, .int r2, .int b0, .int b1, .int b2, .int b3, .int b4, .int b5, .int b6, .int b7, .int r11] (some 3) (some 11) = bs.map .int := cut_nn _ 3 11
    (first | apply seqE | apply seqO); focus (simp [cut]; rw [lcL_mapT PyData.int (fun b => .str (ch (sgn b))) bs (fun b hb => by simp [-ev_subStr, sub_sgS (hbs b hb).1 (hbs b hb).2])]; simp [bs]; rfl)
    rw [show [PyData.str (ch (sgn b0)), .str (ch (sgn b1)), .str (ch (sgn b2)), .str (ch (sgn b3)), .str (ch (sgn b4)), .str (ch (sgn b5)), .str (ch (sgn b6)), .str (ch (sgn b7))] = chsD (bs.map sgn) from rfl]
    refine seqE (ρ1 := [.bo (.da (.int c)), .bo (.da (.int (many : Nat))), .ow (.da (.str "abcdefghijklmnopqrstuvwxyz0123456789")), .ow (.da (.list [.int r0, .int r1, .int r2, .int b0, .int b1, .int b2, .int b3, .int b4, .int b5, .int b6, .int b7, .int r11])), .un, .un, .ow (.lst (chsD (nbody r0 r2 bs))), .un, .un]) ?_ ?_
    · by_cases z : r0 = 1
      · have ct : cutG (chsD (bs.map sgn)) none (some (r2 + 1)) = chsD ((bs.map sgn).take (r2.toNat + 1)) := by
          have := cut_to (chsD (bs.map sgn)) (r2.toNat + 1)
          rw [show ((r2.toNat + 1 : Nat) : Int) = r2 + 1 by omega] at this
          rw [this]; unfold chsD; rw [List.map_take]
        simp [atI0, atI2, z, ct, nbody]
      · simp [atI0, z, nbody]
    obtain ⟨nl1, nl2⟩ := nbody_len (r0 := r0) (bs := bs) rfl h20
    have hcs : ∀ c ∈ nbody r0 r2 bs, True := fun _ _ => trivial
    generalize nbody r0 r2 bs = body at nl1 nl2
    have hat0 := Int.emod_nonneg r11 (show ((body.length : Nat) : Int) ≠ 0 by omega)
    have hat1 := Int.emod_lt_of_pos r11 (show (0 : Int) < (body.length : Nat) by omega)
    (first | apply seqE | apply seqO); focus (simp (disch := first | assumption | omega) [decT, decF, at11, chs_len, modS]; rfl)
    (first | apply seqE | apply seqO); focus (simp (disch := first | assumption | omega) [decT, decF]; rfl)
    generalize hat : (r11 % (body.length : Int)).toNat = at_ at *
    have hatI : r11 % (body.length : Int) = ((at_ : Nat) : Int) := by omega
    rw [hatI]
    have hatl : at_ < body.length := by omega
    have lp := forA_eq (i := 5) (b := w_l_names_0) (fun k => [.bo (.da (.int c)), .bo (.da (.int (many : Nat))), .ow (.da (.str "abcdefghijklmnopqrstuvwxyz0123456789")), .ow (.da (.list [.int r0, .int r1, .int r2, .int b0, .int b1, .int b2, .int b3, .int b4, .int b5, .int b6, .int b7, .int r11])), .un, .un, .ow (.lst (chsD (if k = 0 then body else body.set at_ (sgn ((r1 + 5 * ((k - 1 : Nat) : Int)) % 36))))), .ow (.da (.int (at_ : Nat))), .ow (.lst (nsD ((List.range k).map fun k => mkS (body.set at_ (sgn ((r1 + 5 * (k : Nat)) % 36))))))]) many (fun _ => by simp) (fun k hk => .inl (by
      have ix : ∀ cs : List Nat, cs.length = body.length → ixN (chsD cs).length ((at_ : Nat) : Int) = some at_ := fun cs hl => by
        unfold ixN
        rw [chs_len, hl, if_pos (by omega), if_pos (by omega), Int.toNat_natCast]
      have hl : (if k = 0 then body else body.set at_ (sgn ((r1 + 5 * ((k - 1 : Nat) : Int)) % 36))).length = body.length := by split <;> simp
      have hset : (if k = 0 then body else body.set at_ (sgn ((r1 + 5 * ((k - 1 : Nat) : Int)) % 36))).set at_ (sgn ((r1 + 5 * (k : Nat)) % 36)) = body.set at_ (sgn ((r1 + 5 * (k : Nat)) % 36)) := by
        split
        · rfl
        · rw [List.set_set]
      generalize (if k = 0 then body else body.set at_ (sgn ((r1 + 5 * ((k - 1 : Nat) : Int)) % 36))) = cur at hl hset
      have hsg := sub_sgS (k := (r1 + 5 * (k : Nat)) % 36) (Int.emod_nonneg _ (by decide)) (Int.emod_lt_of_pos _ (by decide))
      have hsetD : (chsD cur).set at_ (.str (ch (sgn ((r1 + 5 * (k : Nat)) % 36)))) = chsD (body.set at_ (sgn ((r1 + 5 * (k : Nat)) % 36))) := by
        rw [← hset]; unfold chsD; rw [List.map_set]
      have hj := join_chs (cs := body.set at_ (sgn ((r1 + 5 * (k : Nat)) % 36))) (r := .lst (chsD (body.set at_ (sgn ((r1 + 5 * (k : Nat)) % 36))))) rfl (by simp; omega)
      have ap := app_ns (ns := (List.range k).map fun k => mkS (body.set at_ (sgn ((r1 + 5 * (k : Nat)) % 36)))) (n := mkS (body.set at_ (sgn ((r1 + 5 * (k : Nat)) % 36)))) (by simp; omega)
      unfold w_l_names_0
      apply klN
      · (first | apply seqE | apply seqO); focus (simp (disch := first | assumption | omega) [decT, decF, -ev_subStr, atI1, mulS, modS, hsg, ix cur hl, hsetD]; rfl)
        (simp (disch := first | assumption | omega) [decT, decF, hj, ap]; rfl)
      · simp [List.range_succ]))
    simp only [if_true, List.range_zero, List.map_nil, show nsD [] = [] from rfl] at lp
    (first | apply seqE | apply seqO); focus (simp (disch := first | assumption | omega) [decT, decF, forN_n (show many ≤ 1000000000 by omega), lp]; rfl)
    simp
theorem f_good_eq {n : Str} (h : GoodNm n) : f_good_name [.da (.str n)] = some (.ok (.da (.bool true)) []) := by
  obtain ⟨h1, h2, h3⟩ := h
  have hz : n.length ≤ sizeLine := by unfold sizeLine; omega
  have ln : lenV (.da (.str n)) = some (.da (.int (n.length : Nat))) := by
    show (lenR (.da (.str n))).map _ = _
    simp only [lenR, if_pos hz, Option.map_some]
  have lp := forL_same (i := 1) (b := w_good_name_0) (ρ := [.bo (.da (.str n)), .un]) (fun c : Nat => PyData.str ⟨#[c]⟩) (by simp) n.cps.toList (fun c hc => .inl (by
    have : inR (.da (.str ⟨#[c]⟩)) (.da (.str "abcdefghijklmnopqrstuvwxyz0123456789")) = some (decide (c ∈ sgs)) := rfl
    simp [w_good_name_0, this, h3 c hc]))
  have c1 : ¬ (n.length : Int) < 1 := by omega
  have c2 : ¬ (8 : Int) < (n.length : Int) := by omega
  simp [f_good_name, b_good_name, ln, c1, c2, show itD (.str n) = some (n.cps.toList.map fun c => .str ⟨#[c]⟩) from rfl, lp]
end Sm

set_option exponentiation.threshold 20000
namespace Sm
open PySem L2 Cg
/-! ### texts: words with one blank between; numbers as texts -/
abbrev tlS (x : Str) : List Nat := x.cps.toList
theorem tl_sp : TL.tl (" " : Str) = [32] := by decide +kernel
theorem tl_sl : TL.tl ("/" : Str) = [47] := by decide +kernel
theorem jn_one (s w : Str) : Txt.join s [w] = w := by rw [TL.join_eq]; rfl
theorem jn_cons (s w v : Str) (r : List Str) : Txt.join s (w :: v :: r) = w ++ s ++ Txt.join s (v :: r) := by rw [TL.join_eq, TL.join_eq]; rfl
theorem str_assoc (a b c : Str) : a ++ b ++ c = a ++ (b ++ c) := TL.ext_tl (by simp [TL.tl_append])
theorem jn_snoc (s w : Str) : ∀ {ws : List Str}, ws ≠ [] → Txt.join s (ws ++ [w]) = Txt.join s ws ++ s ++ w
  | [], h => absurd rfl h
  | [x], _ => by rw [List.singleton_append, jn_cons, jn_one, jn_one]
  | x :: y :: r, _ => by
    have ih := jn_snoc s w (ws := y :: r) (by simp)
    rw [List.cons_append] at ih ⊢
    rw [List.cons_append, jn_cons, ih, jn_cons]
    simp only [str_assoc]
theorem jn_len (s : Str) (ws : List Str) : (Txt.join s ws).length ≤ (ws.map fun z : Str => z.length).sum + ws.length * s.length := by
  rw [TL.join_eq]; exact StrLaws.join_length_le s ws
theorem jn_split {ws : List Str} (h : ws ≠ []) (hp : ∀ w ∈ ws, 32 ∉ TL.tl w) : Txt.split (Txt.join " " ws) " " = ws :=
  TL.split_join tl_sp (by decide +kernel) h hp
theorem jn_split' {ws : List Str} (h : ws ≠ []) (hp : ∀ w ∈ ws, 47 ∉ TL.tl w) : Txt.split (Txt.join "/" ws) "/" = ws :=
  TL.split_join tl_sl (by decide +kernel) h hp
theorem len_app (a b : Str) : (a ++ b).length = a.length + b.length := Str.length_append a b
theorem len_sp : (" " : Str).length = 1 := by decide +kernel
theorem len_sl : ("/" : Str).length = 1 := by decide +kernel
theorem len_go : ("go " : Str).length = 3 := by decide +kernel
theorem addS {a b : Str} (h : a.length + b.length ≤ 1000000) : addR (.da (.str a)) (.da (.str b)) = some (.da (.str (a ++ b))) := by
  show (if a.length + b.length ≤ sizeLine then some (Rs.da (.str (a ++ b))) else none) = _
  rw [if_pos (by unfold sizeLine; omega)]
theorem strs_ns : ∀ ws : List Str, strsD (nsD ws) = some ws
  | [] => rfl
  | w :: ws => by show (strsD (nsD ws)).map (w :: ·) = _; rw [strs_ns ws]; rfl
theorem joinN {r : Rs} {ws : List Str} {s : Str} (hr : asL r = some (nsD ws)) (h : (ws.map fun z : Str => z.length).sum + ws.length * s.length ≤ 1000000) : joinR (.da (.str s)) r = some (.da (.str (Txt.join s ws))) := by
  unfold joinR
  rw [hr]
  show (match strsD (nsD ws) with
    | some ys => if (ys.map fun z : Str => z.length).sum + ys.length * s.length ≤ 16777216 then some (Rs.da (.str (Txt.join s ys))) else none
    | none => none) = _
  rw [strs_ns]
  show (if (ws.map fun z : Str => z.length).sum + ws.length * s.length ≤ 16777216 then _ else none) = _
  rw [if_pos (by omega)]
/-- a number as a text -/
def numT (i : Int) : Str := Str.ofString (toString i)
def numC (i : Int) : List Nat := if i < 0 then 45 :: TL.numL i.natAbs else TL.numL i.natAbs
theorem tl_numT (i : Int) : TL.tl (numT i) = numC i := by
  unfold numC numT
  cases i with
  | ofNat n =>
    rw [if_neg (by simp)]
    exact TL.tl_num n
  | negSucc m =>
    rw [if_pos (by omega)]
    have e : toString (Int.negSucc m) = "-" ++ toString ((m + 1 : Nat) : Int) := rfl
    rw [TL.tl_ofString, e, String.toList_append, List.map_append, ← TL.tl_ofString (toString ((m + 1 : Nat) : Int)), TL.tl_num]
    rfl
theorem numC_len {i : Int} {k : Nat} (hk : 0 < k) (h : i.natAbs < 10 ^ k) : (numC i).length ≤ k + 1 := by
  have := TL.numL_len hk h
  unfold numC
  split <;> simp <;> omega
theorem numT_len {i : Int} {k : Nat} (hk : 0 < k) (h : i.natAbs < 10 ^ k) : (numT i).length ≤ k + 1 := by
  rw [TL.len_tl, tl_numT]; exact numC_len hk h
theorem numC_mem {i : Int} {c : Nat} (h : c ∈ numC i) : c = 45 ∨ (48 ≤ c ∧ c ≤ 57) := by
  unfold numC at h
  split at h
  · rcases List.mem_cons.mp h with h | h
    · exact .inl h
    · exact .inr (TL.numL_digits _ c h)
  · exact .inr (TL.numL_digits _ c h)
theorem num_log {i : Int} {k : Nat} (h : i.natAbs < 10 ^ k) (hk : k ≤ 100) : i.natAbs.log2 < 1920 := by
  have h1 : (10 : Nat) ^ k ≤ 10 ^ 100 := Nat.pow_le_pow_right (by decide) hk
  have h2 : (10 : Nat) ^ 100 < 2 ^ 1000 := by decide +kernel
  have h3 : i.natAbs < 2 ^ 1000 := by omega
  by_cases h0 : i.natAbs = 0
  · rw [h0]; decide
  · have := (Nat.log2_lt h0).mpr h3
    omega
theorem stI {i : Int} {k : Nat} (h : i.natAbs < 10 ^ k) (hk : k ≤ 100) : stR (.da (.int i)) = some (.da (.str (numT i))) := by
  show (if i.natAbs.log2 < 1920 then some (Rs.da (.str (toString i))) else none) = _
  rw [if_pos (num_log h hk)]; rfl
theorem stS (z : Str) : stR (.da (.str z)) = some (.da (.str z)) := rfl
theorem fmtI {i : Int} {k : Nat} (h : i.natAbs < 10 ^ k) (hk : k ≤ 100) : fmt1 (.int i) = some (numT i) := by
  show (if i.natAbs.log2 < 1920 then some (toString i : Str) else none) = _
  rw [if_pos (num_log h hk)]; rfl
/-! ### deeds -/
inductive Dd where
  | jo (n : Str) (p q : Int)
  | tu (n : Str) (p : Int)
  | le (n : Str)
  | ab
  | wa (n : Str) (ns : List Str)
  | un (n : Str)
  | go (q : Rat)
def Dd.d : Dd → PyData
  | .jo n p q => .tuple [.str "join", .str n, .int p, .int q]
  | .tu n p => .tuple [.str "turn", .str n, .int p]
  | .le n => .tuple [.str "leave", .str n]
  | .ab => .tuple [.str "about"]
  | .wa n ns => .tuple [.str "watch", .str n, .tuple (nsD ns)]
  | .un n => .tuple [.str "unwatch", .str n]
  | .go q => .tuple [.str "go", qD q]
def Dd.w : Dd → List Str
  | .jo n p q => ["join", n, numT p, numT q]
  | .tu n p => ["turn", n, numT p]
  | .le n => ["leave", n]
  | .ab => ["about"]
  | .wa n ns => "watch" :: n :: ns
  | .un n => ["unwatch", n]
  | .go q => ["go", numT q.num ++ "/" ++ numT q.den]
def Sm12 (i : Int) : Prop := i.natAbs < 10 ^ 12
def Dd.ok : Dd → Prop
  | .jo n p q => GoodNm n ∧ Sm12 p ∧ Sm12 q
  | .tu n p => GoodNm n ∧ Sm12 p
  | .le n => GoodNm n
  | .ab => True
  | .wa n ns => GoodNm n ∧ ns.length ≤ 12 ∧ ∀ m ∈ ns, GoodNm m
  | .un n => GoodNm n
  | .go q => 0 ≤ q.num ∧ Sm12 q.num ∧ q.den < 10 ^ 12
def Dd.line (D : Dd) : Str := Txt.join " " D.w
theorem sum_le8 : ∀ {ns : List Str}, (∀ m ∈ ns, m.length ≤ 8) → (ns.map fun z : Str => z.length).sum ≤ 8 * ns.length
  | [], _ => by simp
  | n :: ns, h => by
    have := sum_le8 (ns := ns) fun m hm => h m (by simp [hm])
    have := h n (by simp)
    simp only [List.map_cons, List.sum_cons, List.length_cons]; omega
theorem w_sum {D : Dd} (h : D.ok) : (D.w.map fun z : Str => z.length).sum + D.w.length * 1 ≤ 200 := by
  have t12 : ∀ {i : Int}, Sm12 i → (numT i).length ≤ 13 := fun h => numT_len (k := 12) (by decide) h
  have l1 : ("join" : Str).length = 4 := by decide +kernel
  have l2 : ("turn" : Str).length = 4 := by decide +kernel
  have l3 : ("leave" : Str).length = 5 := by decide +kernel
  have l4 : ("about" : Str).length = 5 := by decide +kernel
  have l5 : ("watch" : Str).length = 5 := by decide +kernel
  have l6 : ("unwatch" : Str).length = 7 := by decide +kernel
  have l7 : ("go" : Str).length = 2 := by decide +kernel
  cases D with
  | jo n p q => obtain ⟨a, b, c⟩ := h; have := a.2.1; have := t12 b; have := t12 c; simp [Dd.w, l1]; omega
  | tu n p => obtain ⟨a, b⟩ := h; have := a.2.1; have := t12 b; simp [Dd.w, l2]; omega
  | le n => have := h.2.1; simp [Dd.w, l3]; omega
  | ab => simp [Dd.w, l4]
  | wa n ns =>
    obtain ⟨a, b, c⟩ := h
    have := a.2.1
    have := sum_le8 (ns := ns) fun m hm => (c m hm).2.1
    simp [Dd.w, l5]; omega
  | un n => have := h.2.1; simp [Dd.w, l6]; omega
  | go q =>
    obtain ⟨a, b, c⟩ := h
    have := t12 b
    have := t12 (i := (q.den : Int)) (by unfold Sm12; omega)
    simp [Dd.w, l7, len_app, len_sl]; omega
end Sm

set_option exponentiation.threshold 20000
namespace Sm
open PySem L2 Cg
@[simp] theorem ev_jonC (ss : List FD) (ρ : En) : jonC ss ρ = (joinF ss ρ Str.empty).map fun y => .ok (.da (.str y)) := rfl
@[simp] theorem ev_joinF0 (ρ : En) (acc : Str) : joinF [] ρ acc = some acc := rfl
@[simp] theorem ev_joinF1 (s : FD) (ss : List FD) (ρ : En) (acc : Str) : joinF (s :: ss) ρ acc = (match okk (s ρ) with
    | some (.str y) => if (acc ++ y).length ≤ sizeLine then joinF ss ρ (acc ++ y) else none
    | _ => none) := rfl
@[simp] theorem ev_fmtD (sd : FD) (ρ : En) : fmtD sd ρ = bnz (sd ρ) fun d => (fmt1 d).map fun y => .ok (.str y) := rfl
@[simp] theorem et_join_join : eqR (.da (.str (Str.ofString "join"))) (.da (.str (Str.ofString "join"))) = some true := by rw [eqStr (by decide +kernel) (by decide +kernel)]; decide +kernel
@[simp] theorem et_join_turn : eqR (.da (.str (Str.ofString "join"))) (.da (.str (Str.ofString "turn"))) = some false := by rw [eqStr (by decide +kernel) (by decide +kernel)]; decide +kernel
@[simp] theorem et_join_leave : eqR (.da (.str (Str.ofString "join"))) (.da (.str (Str.ofString "leave"))) = some false := by rw [eqStr (by decide +kernel) (by decide +kernel)]; decide +kernel
@[simp] theorem et_join_about : eqR (.da (.str (Str.ofString "join"))) (.da (.str (Str.ofString "about"))) = some false := by rw [eqStr (by decide +kernel) (by decide +kernel)]; decide +kernel
@[simp] theorem et_join_watch : eqR (.da (.str (Str.ofString "join"))) (.da (.str (Str.ofString "watch"))) = some false := by rw [eqStr (by decide +kernel) (by decide +kernel)]; decide +kernel
@[simp] theorem et_join_unwatch : eqR (.da (.str (Str.ofString "join"))) (.da (.str (Str.ofString "unwatch"))) = some false := by rw [eqStr (by decide +kernel) (by decide +kernel)]; decide +kernel
@[simp] theorem et_join_go : eqR (.da (.str (Str.ofString "join"))) (.da (.str (Str.ofString "go"))) = some false := by rw [eqStr (by decide +kernel) (by decide +kernel)]; decide +kernel
@[simp] theorem et_turn_join : eqR (.da (.str (Str.ofString "turn"))) (.da (.str (Str.ofString "join"))) = some false := by rw [eqStr (by decide +kernel) (by decide +kernel)]; decide +kernel
@[simp] theorem et_turn_turn : eqR (.da (.str (Str.ofString "turn"))) (.da (.str (Str.ofString "turn"))) = some true := by rw [eqStr (by decide +kernel) (by decide +kernel)]; decide +kernel
@[simp] theorem et_turn_leave : eqR (.da (.str (Str.ofString "turn"))) (.da (.str (Str.ofString "leave"))) = some false := by rw [eqStr (by decide +kernel) (by decide +kernel)]; decide +kernel
@[simp] theorem et_turn_about : eqR (.da (.str (Str.ofString "turn"))) (.da (.str (Str.ofString "about"))) = some false := by rw [eqStr (by decide +kernel) (by decide +kernel)]; decide +kernel
@[simp] theorem et_turn_watch : eqR (.da (.str (Str.ofString "turn"))) (.da (.str (Str.ofString "watch"))) = some false := by rw [eqStr (by decide +kernel) (by decide +kernel)]; decide +kernel
@[simp] theorem et_turn_unwatch : eqR (.da (.str (Str.ofString "turn"))) (.da (.str (Str.ofString "unwatch"))) = some false := by rw [eqStr (by decide +kernel) (by decide +kernel)]; decide +kernel
@[simp] theorem et_turn_go : eqR (.da (.str (Str.ofString "turn"))) (.da (.str (Str.ofString "go"))) = some false := by rw [eqStr (by decide +kernel) (by decide +kernel)]; decide +kernel
@[simp] theorem et_leave_join : eqR (.da (.str (Str.ofString "leave"))) (.da (.str (Str.ofString "join"))) = some false := by rw [eqStr (by decide +kernel) (by decide +kernel)]; decide +kernel
@[simp] theorem et_leave_turn : eqR (.da (.str (Str.ofString "leave"))) (.da (.str (Str.ofString "turn"))) = some false := by rw [eqStr (by decide +kernel) (by decide +kernel)]; decide +kernel
@[simp] theorem et_leave_leave : eqR (.da (.str (Str.ofString "leave"))) (.da (.str (Str.ofString "leave"))) = some true := by rw [eqStr (by decide +kernel) (by decide +kernel)]; decide +kernel
@[simp] theorem et_leave_about : eqR (.da (.str (Str.ofString "leave"))) (.da (.str (Str.ofString "about"))) = some false := by rw [eqStr (by decide +kernel) (by decide +kernel)]; decide +kernel
@[simp] theorem et_leave_watch : eqR (.da (.str (Str.ofString "leave"))) (.da (.str (Str.ofString "watch"))) = some false := by rw [eqStr (by decide +kernel) (by decide +kernel)]; decide +kernel
@[simp] theorem et_leave_unwatch : eqR (.da (.str (Str.ofString "leave"))) (.da (.str (Str.ofString "unwatch"))) = some false := by rw [eqStr (by decide +kernel) (by decide +kernel)]; decide +kernel
@[simp] theorem et_leave_go : eqR (.da (.str (Str.ofString "leave"))) (.da (.str (Str.ofString "go"))) = some false := by rw [eqStr (by decide +kernel) (by decide +kernel)]; decide +kernel
@[simp] theorem et_about_join : eqR (.da (.str (Str.ofString "about"))) (.da (.str (Str.ofString "join"))) = some false := by rw [eqStr (by decide +kernel) (by decide +kernel)]; decide +kernel
@[simp] theorem et_about_turn : eqR (.da (.str (Str.ofString "about"))) (.da (.str (Str.ofString "turn"))) = some false := by rw [eqStr (by decide +kernel) (by decide +kernel)]; decide +kernel
@[simp] theorem et_about_leave : eqR (.da (.str (Str.ofString "about"))) (.da (.str (Str.ofString "leave"))) = some false := by rw [eqStr (by decide +kernel) (by decide +kernel)]; decide +kernel
@[simp] theorem et_about_about : eqR (.da (.str (Str.ofString "about"))) (.da (.str (Str.ofString "about"))) = some true := by rw [eqStr (by decide +kernel) (by decide +kernel)]; decide +kernel
@[simp] theorem et_about_watch : eqR (.da (.str (Str.ofString "about"))) (.da (.str (Str.ofString "watch"))) = some false := by rw [eqStr (by decide +kernel) (by decide +kernel)]; decide +kernel
@[simp] theorem et_about_unwatch : eqR (.da (.str (Str.ofString "about"))) (.da (.str (Str.ofString "unwatch"))) = some false := by rw [eqStr (by decide +kernel) (by decide +kernel)]; decide +kernel
@[simp] theorem et_about_go : eqR (.da (.str (Str.ofString "about"))) (.da (.str (Str.ofString "go"))) = some false := by rw [eqStr (by decide +kernel) (by decide +kernel)]; decide +kernel
@[simp] theorem et_watch_join : eqR (.da (.str (Str.ofString "watch"))) (.da (.str (Str.ofString "join"))) = some false := by rw [eqStr (by decide +kernel) (by decide +kernel)]; decide +kernel
@[simp] theorem et_watch_turn : eqR (.da (.str (Str.ofString "watch"))) (.da (.str (Str.ofString "turn"))) = some false := by rw [eqStr (by decide +kernel) (by decide +kernel)]; decide +kernel
@[simp] theorem et_watch_leave : eqR (.da (.str (Str.ofString "watch"))) (.da (.str (Str.ofString "leave"))) = some false := by rw [eqStr (by decide +kernel) (by decide +kernel)]; decide +kernel
@[simp] theorem et_watch_about : eqR (.da (.str (Str.ofString "watch"))) (.da (.str (Str.ofString "about"))) = some false := by rw [eqStr (by decide +kernel) (by decide +kernel)]; decide +kernel
@[simp] theorem et_watch_watch : eqR (.da (.str (Str.ofString "watch"))) (.da (.str (Str.ofString "watch"))) = some true := by rw [eqStr (by decide +kernel) (by decide +kernel)]; decide +kernel
@[simp] theorem et_watch_unwatch : eqR (.da (.str (Str.ofString "watch"))) (.da (.str (Str.ofString "unwatch"))) = some false := by rw [eqStr (by decide +kernel) (by decide +kernel)]; decide +kernel
@[simp] theorem et_watch_go : eqR (.da (.str (Str.ofString "watch"))) (.da (.str (Str.ofString "go"))) = some false := by rw [eqStr (by decide +kernel) (by decide +kernel)]; decide +kernel
@[simp] theorem et_unwatch_join : eqR (.da (.str (Str.ofString "unwatch"))) (.da (.str (Str.ofString "join"))) = some false := by rw [eqStr (by decide +kernel) (by decide +kernel)]; decide +kernel
@[simp] theorem et_unwatch_turn : eqR (.da (.str (Str.ofString "unwatch"))) (.da (.str (Str.ofString "turn"))) = some false := by rw [eqStr (by decide +kernel) (by decide +kernel)]; decide +kernel
@[simp] theorem et_unwatch_leave : eqR (.da (.str (Str.ofString "unwatch"))) (.da (.str (Str.ofString "leave"))) = some false := by rw [eqStr (by decide +kernel) (by decide +kernel)]; decide +kernel
@[simp] theorem et_unwatch_about : eqR (.da (.str (Str.ofString "unwatch"))) (.da (.str (Str.ofString "about"))) = some false := by rw [eqStr (by decide +kernel) (by decide +kernel)]; decide +kernel
@[simp] theorem et_unwatch_watch : eqR (.da (.str (Str.ofString "unwatch"))) (.da (.str (Str.ofString "watch"))) = some false := by rw [eqStr (by decide +kernel) (by decide +kernel)]; decide +kernel
@[simp] theorem et_unwatch_unwatch : eqR (.da (.str (Str.ofString "unwatch"))) (.da (.str (Str.ofString "unwatch"))) = some true := by rw [eqStr (by decide +kernel) (by decide +kernel)]; decide +kernel
@[simp] theorem et_unwatch_go : eqR (.da (.str (Str.ofString "unwatch"))) (.da (.str (Str.ofString "go"))) = some false := by rw [eqStr (by decide +kernel) (by decide +kernel)]; decide +kernel
@[simp] theorem et_go_join : eqR (.da (.str (Str.ofString "go"))) (.da (.str (Str.ofString "join"))) = some false := by rw [eqStr (by decide +kernel) (by decide +kernel)]; decide +kernel
@[simp] theorem et_go_turn : eqR (.da (.str (Str.ofString "go"))) (.da (.str (Str.ofString "turn"))) = some false := by rw [eqStr (by decide +kernel) (by decide +kernel)]; decide +kernel
@[simp] theorem et_go_leave : eqR (.da (.str (Str.ofString "go"))) (.da (.str (Str.ofString "leave"))) = some false := by rw [eqStr (by decide +kernel) (by decide +kernel)]; decide +kernel
@[simp] theorem et_go_about : eqR (.da (.str (Str.ofString "go"))) (.da (.str (Str.ofString "about"))) = some false := by rw [eqStr (by decide +kernel) (by decide +kernel)]; decide +kernel
@[simp] theorem et_go_watch : eqR (.da (.str (Str.ofString "go"))) (.da (.str (Str.ofString "watch"))) = some false := by rw [eqStr (by decide +kernel) (by decide +kernel)]; decide +kernel
@[simp] theorem et_go_unwatch : eqR (.da (.str (Str.ofString "go"))) (.da (.str (Str.ofString "unwatch"))) = some false := by rw [eqStr (by decide +kernel) (by decide +kernel)]; decide +kernel
@[simp] theorem et_go_go : eqR (.da (.str (Str.ofString "go"))) (.da (.str (Str.ofString "go"))) = some true := by rw [eqStr (by decide +kernel) (by decide +kernel)]; decide +kernel

theorem emp_app (x : Str) : Str.empty ++ x = x := TL.ext_tl (by rw [TL.tl_append]; rfl)
theorem sz_le {n : Nat} (h : n ≤ 1000000) : n ≤ sizeLine := by unfold sizeLine; omega
theorem lcL_strs {i : Nat} {ρ : En} {sd : FD} (f : PyData → Str) : ∀ ds : List PyData, (∀ d ∈ ds, sd (put ρ i (.ow (.da d))) = some (.ok (.str (f d)))) → lcL i yesT sd ρ ds = some (nsD (ds.map f)) := fun ds h => by
  rw [lcL_map (fun d => .str (f d)) ds h]
  unfold nsD; rw [List.map_map]; rfl
theorem asL_lst (ds : List PyData) : asL (.lst ds) = some ds := rfl
theorem asL_dl (ds : List PyData) : asL (.da (.list ds)) = some ds := rfl
theorem t12 {i : Int} (h : Sm12 i) : (numT i).length ≤ 13 := numT_len (k := 12) (by decide) h
theorem go_line {q : Rat} : Txt.join " " ["go", numT q.num ++ "/" ++ numT q.den] = "go " ++ numT q.num ++ "/" ++ numT q.den := by
  rw [jn_cons, jn_one]
  have : ("go" : Str) ++ " " = "go " := by decide +kernel
  rw [this]
  simp only [str_assoc]
theorem jnD {D : Dd} (h : D.ok) {r : Rs} (hr : asL r = some (nsD D.w)) : joinR (.da (.str " ")) r = some (.da (.str D.line)) := joinN hr (by have := w_sum h; rw [len_sp]; omega)
theorem f_line_of_eq {D : Dd} (h : D.ok) : f_line_of [.da D.d] = some (.ok (.da (.str D.line)) []) := by
  have jn := fun (r : Rs) (hr : asL r = some (nsD D.w)) => jnD h hr
  unfold f_line_of b_line_of
  refine bodyF_go (by simp; rfl) (by rfl) ?_
  cases D with
  | jo n p q =>
    have j := jn (.da (.list [.str "join", .str n, .str (numT p), .str (numT q)])) rfl
    generalize (Dd.jo n p q).line = L at j
    unfold Dd.d
    (first | apply seqE | apply seqO); focus (simp (disch := first | assumption | omega) [decT, decF, atI0]; rfl)
    (first | apply seqE | apply seqO); focus (simp (disch := first | assumption | omega) [decT, decF]; rfl)
    (first | apply seqE | apply seqO); focus (simp (disch := first | assumption | omega) [decT, decF]; rfl)
    simp [show ∀ ds, itA (.da (.tuple ds)) = some ds from fun _ => rfl, ev_lcL1, stS, stI h.2.1, stI h.2.2, j]
  | tu n p =>
    have j := jn (.da (.list [.str "turn", .str n, .str (numT p)])) rfl
    generalize (Dd.tu n p).line = L at j
    unfold Dd.d
    (first | apply seqE | apply seqO); focus (simp (disch := first | assumption | omega) [decT, decF, atI0]; rfl)
    (first | apply seqE | apply seqO); focus (simp (disch := first | assumption | omega) [decT, decF]; rfl)
    (first | apply seqE | apply seqO); focus (simp (disch := first | assumption | omega) [decT, decF]; rfl)
    simp [show ∀ ds, itA (.da (.tuple ds)) = some ds from fun _ => rfl, ev_lcL1, stS, stI h.2, j]
  | le n =>
    have j := jn (.da (.list [.str "leave", .str n])) rfl
    generalize (Dd.le n).line = L at j
    unfold Dd.d
    (first | apply seqE | apply seqO); focus (simp (disch := first | assumption | omega) [decT, decF, atI0]; rfl)
    (first | apply seqE | apply seqO); focus (simp (disch := first | assumption | omega) [decT, decF]; rfl)
    (first | apply seqE | apply seqO); focus (simp (disch := first | assumption | omega) [decT, decF]; rfl)
    simp [show ∀ ds, itA (.da (.tuple ds)) = some ds from fun _ => rfl, ev_lcL1, stS, j]
  | ab =>
    have j := jn (.da (.list [.str "about"])) rfl
    generalize (Dd.ab).line = L at j
    unfold Dd.d
    (first | apply seqE | apply seqO); focus (simp (disch := first | assumption | omega) [decT, decF, atI0]; rfl)
    (first | apply seqE | apply seqO); focus (simp (disch := first | assumption | omega) [decT, decF]; rfl)
    (first | apply seqE | apply seqO); focus (simp (disch := first | assumption | omega) [decT, decF]; rfl)
    simp [show ∀ ds, itA (.da (.tuple ds)) = some ds from fun _ => rfl, ev_lcL1, stS, j]
  | un n =>
    have j := jn (.da (.list [.str "unwatch", .str n])) rfl
    generalize (Dd.un n).line = L at j
    unfold Dd.d
    (first | apply seqE | apply seqO); focus (simp (disch := first | assumption | omega) [decT, decF, atI0]; rfl)
    (first | apply seqE | apply seqO); focus (simp (disch := first | assumption | omega) [decT, decF]; rfl)
    (first | apply seqE | apply seqO); focus (simp (disch := first | assumption | omega) [decT, decF]; rfl)
    simp [show ∀ ds, itA (.da (.tuple ds)) = some ds from fun _ => rfl, ev_lcL1, stS, j]
  | wa n ns =>
    have j := jn (.lst ([.str "watch", .str n] ++ nsD ns)) rfl
    generalize (Dd.wa n ns).line = L at j
    have ad : addR (.da (.list [.str "watch", .str n])) (.da (.list (nsD ns))) = some (.lst ([.str "watch", .str n] ++ nsD ns)) := ev_addDD (by have := h.2.1; simp [ns_len]; omega)
    rw [show (Dd.wa n ns).d = .tuple [.str "watch", .str n, .tuple (nsD ns)] from rfl]
    generalize nsD ns = N at j ad ⊢
    generalize [PyData.str "watch", .str n] ++ N = R at j ad
    (first | apply seqE | apply seqO); focus (simp (disch := first | assumption | omega) [decT, decF, atI0]; rfl)
    (first | apply seqE | apply seqO); focus (simp (disch := first | assumption | omega) [decT, decF]; rfl)
    simp [atI0, atI1, atI2, ad, j]
  | go q =>
    have g : (Dd.go q).line = "go " ++ numT q.num ++ "/" ++ numT q.den := go_line
    rw [g]
    have h1 := t12 h.2.1
    have h2 := t12 (i := (q.den : Int)) (by have := h.2.2; unfold Sm12; omega)
    have z1 : ("go " : Str).length ≤ sizeLine := sz_le (by rw [len_go]; omega)
    have z2 : ("go " ++ numT q.num).length ≤ sizeLine := sz_le (by rw [len_app, len_go]; omega)
    have z3 : ("go " ++ numT q.num ++ "/").length ≤ sizeLine := sz_le (by rw [len_app, len_app, len_go, len_sl]; omega)
    have z4 : ("go " ++ numT q.num ++ "/" ++ numT q.den).length ≤ sizeLine := sz_le (by rw [len_app, len_app, len_app, len_go, len_sl]; omega)
    have f1 := fmtI (i := q.num) (k := 12) h.2.1 (by decide)
    have f2 := fmtI (i := (q.den : Int)) (k := 12) (by have := h.2.2; omega) (by decide)
    unfold Dd.d
    (first | apply seqE | apply seqO); focus (simp (disch := first | assumption | omega) [decT, decF, atI0]; rfl)
    simp [atI1, f1, f2, emp_app, z1, z2, z3, z4]
theorem jn_take (s : Str) {ws : List Str} {k : Nat} {w : Str} (h : ws[k]? = some w) (hk : 0 < k) : Txt.join s (ws.take (k + 1)) = Txt.join s (ws.take k) ++ s ++ w := by
  have hl : k < ws.length := (List.getElem?_eq_some_iff.mp h).1
  have e : ws.take (k + 1) = ws.take k ++ [w] := by rw [List.take_add_one, h]; rfl
  rw [e, jn_snoc]
  · intro z
    have := congrArg List.length z
    rw [List.length_take, List.length_nil] at this
    omega
theorem jn_take_len {ws : List Str} (k : Nat) (h : (ws.map fun z : Str => z.length).sum + ws.length * 1 ≤ 200) : (Txt.join " " (ws.take k)).length ≤ 200 := by
  have h1 := jn_len " " (ws.take k)
  rw [len_sp] at h1
  have e : ws = ws.take k ++ ws.drop k := (List.take_append_drop k ws).symm
  have h2 : (ws.map fun z : Str => z.length).sum = ((ws.take k).map fun z : Str => z.length).sum + ((ws.drop k).map fun z : Str => z.length).sum := by
    conv => lhs; rw [e]
    rw [List.map_append, List.sum_append]
  have h3 : (ws.take k).length ≤ ws.length := by simp; omega
  omega
theorem at_nat' {ds : List PyData} {k : Nat} {d : PyData} (h : ds[k]? = some d) : atI ds ((k : Nat) : Int) = some d := by rw [atI_nat]; exact h
theorem l_line_1 {ds : List PyData} {ws : List Str} (hl : ds.length = ws.length) (h0 : 0 < ws.length) (hst : ∀ (k : Nat) (d : PyData) (w : Str), ds[k]? = some d → ws[k]? = some w → stR (.da d) = some (.da (.str w))) (hs : (ws.map fun z : Str => z.length).sum + ws.length * 1 ≤ 200) :
    forR2 3 (cstC (.int 1)) (dtV (op1 lenV (varC 0))) w_l_line_1 [.bo (.da (.tuple ds)), .ow (.da (.str (Txt.join " " (ws.take 1)))), .un, .un] = some (.nx [.bo (.da (.tuple ds)), .ow (.da (.str (Txt.join " " ws))), .un, .un]) := by
  have hn : ws.length ≤ 200 := by omega
  have fr : forR2 3 (cstC (.int 1)) (dtV (op1 lenV (varC 0))) w_l_line_1 [.bo (.da (.tuple ds)), .ow (.da (.str (Txt.join " " (ws.take 1)))), .un, .un] = forL 3 w_l_line_1 (rng 1 (ws.length - 1)) [.bo (.da (.tuple ds)), .ow (.da (.str (Txt.join " " (ws.take 1)))), .un, .un] := by
    unfold forR2
    have e2 : dtV (op1 lenV (varC 0)) [.bo (.da (.tuple ds)), .ow (.da (.str (Txt.join " " (ws.take 1)))), .un, .un] = some (.ok (.int (ws.length : Nat))) := by simp [hl]
    rw [e2]
    show @ite _ _ (Classical.propDecidable _) _ _ = _
    rw [if_pos ⟨by decide, by decide, by omega, by omega⟩, show (((ws.length : Nat) : Int) - 1).toNat = ws.length - 1 by omega]
  rw [fr]
  obtain ⟨ρ', e, h⟩ := forL_inv (i := 3) (b := w_l_line_1) (fun k ρ => ρ = [.bo (.da (.tuple ds)), .ow (.da (.str (Txt.join " " (ws.take (k + 1))))), .un, .un]) (rng 1 (ws.length - 1)) 0 _ rfl (fun k d ρ hk h => by
    subst h
    unfold rng at hk
    rw [List.getElem?_map] at hk
    have hk' : k < ws.length - 1 := by
      by_cases z : k < ws.length - 1
      · exact z
      · rw [List.getElem?_eq_none (by simp; omega)] at hk; simp at hk
    rw [List.getElem?_range hk'] at hk
    simp at hk
    subst hk
    obtain ⟨w, hw⟩ : ∃ w, ws[k + 1]? = some w := ⟨_, List.getElem?_eq_getElem (by omega)⟩
    obtain ⟨d, hd⟩ : ∃ d, ds[k + 1]? = some d := ⟨_, List.getElem?_eq_getElem (by omega)⟩
    have e1 := jn_take " " hw (by omega)
    have l1 := jn_take_len (k + 1) hs
    have l2 := jn_take_len (k + 1 + 1) hs
    rw [e1] at l2
    simp only [len_app] at l2
    have a0 := at_nat' hd
    rw [show ((k + 1 : Nat) : Int) = 1 + (k : Int) by omega] at a0
    have st := hst _ _ _ hd hw
    rw [Nat.zero_add, e1]
    have A1 := addS (a := Txt.join " " (ws.take (k + 1))) (b := " ") (by rw [len_sp]; omega)
    have A2 := addS (a := Txt.join " " (ws.take (k + 1)) ++ " ") (b := w) (by rw [len_app, len_sp]; rw [len_sp] at l2; omega)
    refine ⟨by simp, _, .inl ?_, rfl⟩
    generalize Txt.join " " (ws.take (k + 1)) = J at *
    unfold w_l_line_1
    simp only [put]
    apply klN
    · (simp (disch := first | assumption | omega) [decT, decF, a0, st, A1, A2]; rfl)
    · rfl)
  rw [e, h]
  rw [show 0 + (rng 1 (ws.length - 1)).length + 1 = ws.length by unfold rng; simp; omega, List.take_length]
theorem l_line_g {D : Dd} (h : D.ok) {a : Str} {ds : List PyData} {ws : List Str} (e1 : D.d = .tuple (.str a :: ds)) (e2 : D.w = a :: ws) (hl : ds.length = ws.length) (hst : ∀ (k : Nat) (d : PyData) (w : Str), ds[k]? = some d → ws[k]? = some w → stR (.da d) = some (.da (.str w)))
    (g1 : eqR (.da (.str a)) (.da (.str (Str.ofString "go"))) = some false) (g2 : eqR (.da (.str a)) (.da (.str (Str.ofString "watch"))) = some false) : f_l_line [.da D.d] = some (.ok (.da (.str D.line)) []) := by
  have hs := w_sum h
  rw [e2] at hs
  have lp := l_line_1 (ds := .str a :: ds) (ws := a :: ws) (by simp [hl]) (by simp) (fun k d w hd hw => by
    cases k with
    | zero => simp at hd hw; subst hd; subst hw; rfl
    | succ k => exact hst k d w (by simpa using hd) (by simpa using hw)) hs
  rw [show (a :: ws).take 1 = [a] from rfl, jn_one] at lp
  unfold Dd.line
  rw [e1, e2]
  have a0 : atI (PyData.str a :: ds) 0 = some (.str a) := atI0 _ _
  generalize Txt.join " " (a :: ws) = J at *
  unfold f_l_line b_l_line
  refine bodyF_go (by simp; rfl) (by rfl) ?_
  generalize PyData.str a :: ds = DS at *
  (first | apply seqE | apply seqO); focus (simp (disch := first | assumption | omega) [decT, decF, a0, g1]; rfl)
  (first | apply seqE | apply seqO); focus (simp (disch := first | assumption | omega) [decT, decF, a0]; rfl)
  (first | apply seqE | apply seqO); focus (simp (disch := first | assumption | omega) [decT, decF, a0, g2]; rfl)
  (first | apply seqE | apply seqO); focus (simp (disch := first | assumption | omega) [decT, decF, lp]; rfl)
  simp
theorem st_nil' {k : Nat} {d : PyData} {w : Str} : ([] : List PyData)[k]? = some d → ([] : List Str)[k]? = some w → stR (.da d) = some (.da (.str w)) := fun h => by simp at h
theorem st_cons' {d0 : PyData} {w0 : Str} {ds : List PyData} {ws : List Str} (h0 : stR (.da d0) = some (.da (.str w0))) (h : ∀ (k : Nat) (d : PyData) (w : Str), ds[k]? = some d → ws[k]? = some w → stR (.da d) = some (.da (.str w))) : ∀ (k : Nat) (d : PyData) (w : Str), (d0 :: ds)[k]? = some d → (w0 :: ws)[k]? = some w → stR (.da d) = some (.da (.str w)) := fun k d w hd hw => by
  cases k with
  | zero => simp at hd hw; subst hd; subst hw; exact h0
  | succ k => exact h k d w (by simpa using hd) (by simpa using hw)
theorem f_l_line_eq {D : Dd} (h : D.ok) : f_l_line [.da D.d] = some (.ok (.da (.str D.line)) []) := by
  cases D with
  | jo n p q => exact l_line_g h (a := "join") rfl rfl rfl (st_cons' (stS n) (st_cons' (stI (k := 12) h.2.1 (by decide)) (st_cons' (stI (k := 12) h.2.2 (by decide)) (fun _ _ _ => st_nil')))) (by simp) (by simp)
  | tu n p => exact l_line_g h (a := "turn") rfl rfl rfl (st_cons' (stS n) (st_cons' (stI (k := 12) h.2 (by decide)) (fun _ _ _ => st_nil'))) (by simp) (by simp)
  | le n => exact l_line_g h (a := "leave") rfl rfl rfl (st_cons' (stS n) (fun _ _ _ => st_nil')) (by simp) (by simp)
  | ab => exact l_line_g h (a := "about") rfl rfl rfl (fun _ _ _ => st_nil') (by simp) (by simp)
  | un n => exact l_line_g h (a := "unwatch") rfl rfl rfl (st_cons' (stS n) (fun _ _ _ => st_nil')) (by simp) (by simp)
  | go q =>
    have g : (Dd.go q).line = "go " ++ numT q.num ++ "/" ++ numT q.den := go_line
    rw [g]
    have h1 := t12 h.2.1
    have h2 := t12 (i := (q.den : Int)) (by have := h.2.2; unfold Sm12; omega)
    have s1 := stI (i := q.num) (k := 12) h.2.1 (by decide)
    have s2 := stI (i := (q.den : Int)) (k := 12) (by have := h.2.2; omega) (by decide)
    have A1 := addS (a := "go ") (b := numT q.num) (by rw [len_go]; omega)
    have A2 := addS (a := "go " ++ numT q.num) (b := "/") (by rw [len_app, len_go, len_sl]; omega)
    have A3 := addS (a := "go " ++ numT q.num ++ "/") (b := numT q.den) (by rw [len_app, len_app, len_go, len_sl]; omega)
    unfold Dd.d
    unfold f_l_line b_l_line
    refine bodyF_go (by simp; rfl) (by rfl) ?_
    refine seqRt (x := .da (.str ("go " ++ numT q.num ++ "/" ++ numT q.den))) (ρ1 := [.bo (.da (.tuple [.str "go", qD q])), .un, .un, .un]) ?_ (by rfl)
    simp [atI0, atI1, s1, s2, A1, A2, A3]
  | wa n ns =>
    have hs := w_sum h
    have ew : (Dd.wa n ns).w = ("watch" : Str) :: n :: ns := rfl
    rw [ew] at hs
    unfold Dd.line
    rw [ew]
    have lw : ("watch" : Str).length = 5 := by decide +kernel
    have ln := h.1.2.1
    obtain ⟨ρ', lp, hI⟩ := forL_inv (i := 2) (b := w_l_line_0) (fun k ρ => ρ = [.bo (.da (.tuple [.str "watch", .str n, .tuple (nsD ns)])), .ow (.da (.str (Txt.join " " ((("watch" : Str) :: n :: ns).take (k + 2))))), .un, .un]) (nsD ns) 0 _ rfl (fun k d ρ hk hI => by
      subst hI
      unfold nsD at hk
      rw [List.getElem?_map] at hk
      obtain ⟨w, hw, rfl⟩ := map_some hk
      have e1 := jn_take " " (ws := ("watch" : Str) :: n :: ns) (k := k + 2) (w := w) (by simpa using hw) (by omega)
      have l1 := jn_take_len (k + 2) hs
      have l2 := jn_take_len (k + 2 + 1) hs
      rw [e1] at l2
      simp only [len_app] at l2
      rw [Nat.zero_add, show k + 1 + 2 = k + 2 + 1 by omega, e1]
      have A1 := addS (a := Txt.join " " ((("watch" : Str) :: n :: ns).take (k + 2))) (b := " ") (by rw [len_sp]; omega)
      have A2 := addS (a := Txt.join " " ((("watch" : Str) :: n :: ns).take (k + 2)) ++ " ") (b := w) (by rw [len_app, len_sp]; rw [len_sp] at l2; omega)
      refine ⟨by simp, _, .inl ?_, rfl⟩
      generalize Txt.join " " ((("watch" : Str) :: n :: ns).take (k + 2)) = J at *
      unfold w_l_line_0
      simp only [put]
      apply klN
      · (simp (disch := first | assumption | omega) [decT, decF, A1, A2]; rfl)
      · rfl)
    rw [hI, ns_len, show (("watch" : Str) :: n :: ns).take (0 + ns.length + 2) = ("watch" : Str) :: n :: ns from List.take_of_length_le (by simp)] at lp
    rw [show (("watch" : Str) :: n :: ns).take (0 + 2) = [("watch" : Str), n] from rfl, jn_cons, jn_one] at lp
    have A1 := addS (a := "watch") (b := " ") (by rw [lw, len_sp]; omega)
    have A2 := addS (a := "watch" ++ " ") (b := n) (by rw [len_app, lw, len_sp]; omega)
    generalize Txt.join " " (("watch" : Str) :: n :: ns) = J at *
    generalize ("watch" : Str) ++ " " = W1 at *
    generalize W1 ++ n = W2 at *
    rw [show (Dd.wa n ns).d = .tuple [.str "watch", .str n, .tuple (nsD ns)] from rfl]
    generalize nsD ns = N at *
    unfold f_l_line b_l_line
    refine bodyF_go (by simp; rfl) (by rfl) ?_
    (first | apply seqE | apply seqO); focus (simp (disch := first | assumption | omega) [decT, decF, atI0]; rfl)
    (first | apply seqE | apply seqO); focus (simp (disch := first | assumption | omega) [decT, decF, atI0]; rfl)
    simp [atI0, atI1, atI2, A1, A2, lp]
end Sm

set_option exponentiation.threshold 20000
namespace Sm
open PySem L2 Cg
theorem ev_p12 : powI (.da (.int 10)) (.da (.int 12)) = some (.da (.int 1000000000000)) := by rw [ev_powI, if_pos (by decide)]; rfl
theorem sm12 {i : Int} (h1 : -1000000000000 < i) (h2 : i < 1000000000000) : Sm12 i := by unfold Sm12; omega
theorem frac_bd {a b : Int} (ha : 0 ≤ a) (hb : 0 < b) : 0 ≤ ((a : Rat) / (b : Rat)).num ∧ ((a : Rat) / (b : Rat)).num.natAbs ≤ a.natAbs ∧ ((a : Rat) / (b : Rat)).den ≤ b.natAbs := by
  rw [← Rat.divInt_eq_div, Rat.num_divInt, Rat.den_divInt, Int.sign_eq_one_of_pos hb, Int.one_mul, if_neg (by omega)]
  refine ⟨Int.ediv_nonneg ha (by omega), ?_, Nat.div_le_self _ _⟩
  have hd : ((b.gcd a : Nat) : Int) ∣ a := Int.gcd_dvd_right ..
  rw [Int.natAbs_ediv_of_dvd hd]
  exact Nat.div_le_self _ _
theorem f_anydeed_eq (c c' : Int) : ∃ D : Dd, f_l_anydeed [.da (.int c), .da (.int c')] = some (.ok (.da D.d) []) ∧ D.ok := by
  obtain ⟨r0, r1, r2, r3, r4, r5, hd, h00, h01, h10, h11, h20, h21, h30, h31, h40, h41, h50, h51⟩ := dig6 c (t0 := 8) (t1 := 1999999999999) (t2 := 1999999999999) (t3 := 999999999999) (t4 := 5) (t5 := 13) (by decide)
  obtain ⟨nms, en, hl, nd, gd⟩ := f_names_eq c' (many := 13) (by decide)
  have en' : f_l_names [.da (.int c'), .da (.int 13)] = some (.ok (.lst (nsD nms)) []) := en
  have m2 : mulR (.da (.int 2)) (.da (.int 1000000000000)) = some (.da (.int 2000000000000)) := mulS (by decide) (by decide) (by decide) (by decide)
  obtain ⟨p0, ep0, hp0⟩ : ∃ p : Int, p = r1 - 1000000000000 + 1 ∧ Sm12 p := ⟨_, rfl, sm12 (by omega) (by omega)⟩
  obtain ⟨q0, eq0, hq0⟩ : ∃ p : Int, p = r2 - 1000000000000 + 1 ∧ Sm12 p := ⟨_, rfl, sm12 (by omega) (by omega)⟩
  obtain ⟨p1, ep1, hp1⟩ : ∃ p : Int, p = (if r4 < 3 then r1 % 2000003 - 1000001 else p0) ∧ Sm12 p := ⟨_, rfl, by split; exact sm12 (by omega) (by omega); exact hp0⟩
  obtain ⟨q1, eq1, hq1⟩ : ∃ p : Int, p = (if r4 < 3 then r2 % 2003 - 1001 else q0) ∧ Sm12 p := ⟨_, rfl, by split; exact sm12 (by omega) (by omega); exact hq0⟩
  obtain ⟨p, ep, hp⟩ : ∃ p : Int, p = (if r4 = 0 then r1 % 19 - 9 else p1) ∧ Sm12 p := ⟨_, rfl, by split; exact sm12 (by omega) (by omega); exact hp1⟩
  obtain ⟨q, eq, hq⟩ : ∃ p : Int, p = (if r4 = 0 then r2 % 7 - 3 else q1) ∧ Sm12 p := ⟨_, rfl, by split; exact sm12 (by omega) (by omega); exact hq1⟩
  have n0 : ∃ n, atI (nsD nms) 0 = some (.str n) ∧ GoodNm n := by
    have h := ns_get nms 0
    refine ⟨nms[0], ?_, gd _ (List.getElem_mem (by omega))⟩
    rw [List.getElem?_eq_getElem (by omega)] at h; exact h
  have n5 : ∃ n, atI (nsD nms) r5 = some (.str n) ∧ GoodNm n := by
    have h := ns_get nms r5.toNat
    have hz : r5.toNat < nms.length := by omega
    refine ⟨nms[r5.toNat], ?_, gd _ (List.getElem_mem hz)⟩
    rw [List.getElem?_eq_getElem hz, show ((r5.toNat : Nat) : Int) = r5 by omega] at h; exact h
  obtain ⟨a, ea, ga⟩ := n0
  obtain ⟨b, eb, gb⟩ := n5
  have ct : cutG (nsD nms) (some 1) (some (1 + r5)) = nsD ((nms.drop 1).take r5.toNat) := by
    have := cut_nn (nsD nms) 1 (1 + r5.toNat)
    rw [ns_len, hl] at this
    rw [show ((1 + r5.toNat : Nat) : Int) = 1 + r5 by omega, show min (1 + r5.toNat) 13 - min 1 13 = r5.toNat by omega, show min 1 13 = 1 by rfl] at this
    rw [show ((1 : Nat) : Int) = 1 from rfl] at this
    rw [this]; unfold nsD; rw [List.map_take, List.map_drop]
  obtain ⟨gr, egr⟩ : ∃ g, g = (nms.drop 1).take r5.toNat := ⟨_, rfl⟩
  rw [← egr] at ct
  have hgr : gr.length ≤ 12 ∧ ∀ m ∈ gr, GoodNm m := by
    rw [egr]
    exact ⟨by simp; omega, fun m hm => gd m (List.mem_of_mem_drop (List.mem_of_mem_take hm))⟩
  -- the bottom
  obtain ⟨bo, ebo, hb0, hb1⟩ : ∃ z : Int, atI [PyData.int 60, .int 64, .int 1000, .int 7, .int 999999999999] r4 = some (.int z) ∧ 0 < z ∧ z ≤ 999999999999 := by
    have : r4 = 0 ∨ r4 = 1 ∨ r4 = 2 ∨ r4 = 3 ∨ r4 = 4 := by omega
    rcases this with rfl | rfl | rfl | rfl | rfl
    · exact ⟨_, atI0 _ _, by decide, by decide⟩
    · exact ⟨_, atI1 _ _ _, by decide, by decide⟩
    · exact ⟨_, atI2 _ _ _ _, by decide, by decide⟩
    · exact ⟨_, atI3 _ _ _ _ _, by decide, by decide⟩
    · exact ⟨_, atI4 _ _ _ _ _ _, by decide, by decide⟩
  have e0 := Int.emod_nonneg r3 (show bo ≠ 0 by omega)
  have e1 := Int.emod_lt_of_pos r3 hb0
  have lw := f_low_eq (a := (p.natAbs : Int)) (b := 1 + r3 % bo) (by omega) (by
    have : (1 + r3 % bo).natAbs < 2 ^ 64 := by omega
    exact Nat.lt_of_lt_of_le this (Nat.pow_le_pow_right (by decide) (by decide)))
  obtain ⟨g, eg⟩ : ∃ g : Rat, g = ((p.natAbs : Int) : Rat) / ((1 + r3 % bo : Int) : Rat) := ⟨_, rfl⟩
  rw [← eg] at lw
  have gok : (Dd.go g).ok := by
    have := frac_bd (a := (p.natAbs : Int)) (b := 1 + r3 % bo) (by omega) (by omega)
    rw [← eg] at this
    unfold Sm12 at hp
    exact ⟨this.1, by unfold Sm12; omega, by omega⟩
  generalize ((p.natAbs : Int) : Rat) / ((1 + r3 % bo : Int) : Rat) = gg at *
  have at1 : atI [PyData.int r0, .int r1, .int r2, .int r3, .int r4, .int r5] 1 = some (.int r1) := atI1 _ _ _
  have at2 : atI [PyData.int r0, .int r1, .int r2, .int r3, .int r4, .int r5] 2 = some (.int r2) := atI2 _ _ _ _
  have at3 : atI [PyData.int r0, .int r1, .int r2, .int r3, .int r4, .int r5] 3 = some (.int r3) := atI3 _ _ _ _ _
  have at4 : atI [PyData.int r0, .int r1, .int r2, .int r3, .int r4, .int r5] 4 = some (.int r4) := atI4 _ _ _ _ _ _
  have at5 : atI [PyData.int r0, .int r1, .int r2, .int r3, .int r4, .int r5] 5 = some (.int r5) := atI5 _ _ _ _ _ _ _
  have at0 : atI [PyData.int r0, .int r1, .int r2, .int r3, .int r4, .int r5] 0 = some (.int r0) := atI0 _ _
  obtain ⟨D, hD, hok⟩ : ∃ D : Dd, D = (if r0 < 2 then .jo a p q else if r0 = 2 then .tu b q else if r0 = 3 then .le b else if r0 = 4 then .ab else if r0 = 5 then .wa a gr else if r0 = 6 then .un b else .go g) ∧ D.ok := by
    refine ⟨_, rfl, ?_⟩
    split
    · exact ⟨ga, hp, hq⟩
    split
    · exact ⟨gb, hq⟩
    split
    · exact gb
    split
    · trivial
    split
    · exact ⟨ga, hgr⟩
    split
    · exact gb
    · exact gok
  refine ⟨D, ?_, hok⟩
  unfold f_l_anydeed b_l_anydeed
  refine bodyF_go (by simp; rfl) (by rfl) ?_
  (first | apply seqE | apply seqO); focus (simp [ev_p12, m2, hd]; rfl)
  (first | apply seqE | apply seqO); focus (simp (disch := first | assumption | omega) [decT, decF, en']; rfl)
  generalize [PyData.int r0, .int r1, .int r2, .int r3, .int r4, .int r5] = RR at *
  generalize nsD nms = NN at *
  (first | apply seqE | apply seqO); focus (simp [ev_p12, at1, at2]; rfl)
  rw [← ep0, ← eq0]
  refine seqE (ρ1 := [.bo (.da (.int c)), .bo (.da (.int c')), .ow (.da (.list RR)), .ow (.da (.list NN)), .ow (.da (.list [.int p1, .int q1]))]) ?_ ?_
  · by_cases z : r4 < 3
    · simp [at4, z, at1, at2, modS, ep1, eq1]
    · simp [at4, z, ep1, eq1]
  refine seqE (ρ1 := [.bo (.da (.int c)), .bo (.da (.int c')), .ow (.da (.list RR)), .ow (.da (.list NN)), .ow (.da (.list [.int p, .int q]))]) ?_ ?_
  · by_cases z : r4 = 0
    · simp [at4, z, at1, at2, modS, ep, eq]
    · simp [at4, z, ep, eq]
  have m3 : modI (.da (.int r3)) (.da (.int bo)) = some (.da (.int (r3 % bo))) := modS hb0
  by_cases c0 : r0 < 2
  · rw [if_pos c0] at hD; subst hD
    simp [at0, c0, ea, atI0, atI1, Dd.d]
  rw [if_neg c0] at hD
  (first | apply seqE | apply seqO); focus (simp (disch := first | assumption | omega) [decT, decF, at0, c0]; rfl)
  by_cases c2 : r0 = 2
  · rw [if_pos c2] at hD; subst hD
    simp [at0, c2, at5, eb, atI1, Dd.d]
  rw [if_neg c2] at hD
  (first | apply seqE | apply seqO); focus (simp (disch := first | assumption | omega) [decT, decF, at0, c2]; rfl)
  by_cases c3 : r0 = 3
  · rw [if_pos c3] at hD; subst hD
    simp [at0, c3, at5, eb, Dd.d]
  rw [if_neg c3] at hD
  (first | apply seqE | apply seqO); focus (simp (disch := first | assumption | omega) [decT, decF, at0, c3]; rfl)
  by_cases c4 : r0 = 4
  · rw [if_pos c4] at hD; subst hD
    simp [at0, c4, Dd.d]
  rw [if_neg c4] at hD
  (first | apply seqE | apply seqO); focus (simp (disch := first | assumption | omega) [decT, decF, at0, c4]; rfl)
  by_cases c5 : r0 = 5
  · rw [if_pos c5] at hD; subst hD
    simp [at0, c5, at5, ea, ct, tpR, Dd.d]
  rw [if_neg c5] at hD
  (first | apply seqE | apply seqO); focus (simp (disch := first | assumption | omega) [decT, decF, at0, c5]; rfl)
  by_cases c6 : r0 = 6
  · rw [if_pos c6] at hD; subst hD
    simp [at0, c6, at5, eb, Dd.d]
  rw [if_neg c6] at hD; subst hD
  (first | apply seqE | apply seqO); focus (simp (disch := first | assumption | omega) [decT, decF, at0, c6]; rfl)
  simp [atI0, at3, at4, ebo, m3, lw, ev_p12, Dd.d]
end Sm

set_option exponentiation.threshold 20000
namespace Sm
open PySem L2 Cg
theorem mem_joinL {S : List Nat} {c : Nat} : ∀ {ps : List (List Nat)}, c ∈ TL.joinL S ps → c ∈ S ∨ ∃ p ∈ ps, c ∈ p
  | [], h => by simp [TL.joinL] at h
  | [p], h => .inr ⟨p, by simp, h⟩
  | p :: q :: r, h => by
    have h' : c ∈ p ++ (S ++ TL.joinL S (q :: r)) := h
    rcases List.mem_append.mp h' with h' | h'
    · exact .inr ⟨p, by simp, h'⟩
    rcases List.mem_append.mp h' with h' | h'
    · exact .inl h'
    rcases mem_joinL h' with h' | ⟨x, hx, h'⟩
    · exact .inl h'
    · exact .inr ⟨x, List.mem_cons_of_mem _ hx, h'⟩
theorem mem_jn {s : Str} {ws : List Str} {c : Nat} (h : c ∈ TL.tl (Txt.join s ws)) : c ∈ TL.tl s ∨ ∃ w ∈ ws, c ∈ TL.tl w := by
  rw [TL.join_eq, TL.tl_join] at h
  rcases mem_joinL h with h | ⟨p, hp, h⟩
  · exact .inl h
  · obtain ⟨w, hw, rfl⟩ := List.mem_map.mp hp
    exact .inr ⟨w, hw, h⟩
theorem lit_sgs : ∀ w ∈ (["join", "turn", "leave", "about", "watch", "unwatch", "go"] : List Str), ∀ c ∈ TL.tl w, c ∈ sgs := by decide +kernel
theorem sgs_lt : ∀ c ∈ sgs, c < 128 ∧ c ≠ 32 ∧ c ≠ 47 := by decide +kernel
/-- the signs of a deed's words -/
theorem w_signs {D : Dd} (h : D.ok) : ∀ w ∈ D.w, ∀ c ∈ TL.tl w, c ∈ sgs ∨ c = 45 ∨ c = 47 := by
  have nm : ∀ {n : Str}, GoodNm n → ∀ c ∈ TL.tl n, c ∈ sgs ∨ c = 45 ∨ c = 47 := fun g c hc => .inl (g.2.2 c hc)
  have dg0 : ∀ c ∈ List.range' 48 10, c ∈ sgs := by decide +kernel
  have dg : ∀ c, 48 ≤ c → c ≤ 57 → c ∈ sgs := fun c h1 h2 => dg0 c (by rw [List.mem_range'_1]; omega)
  have nt : ∀ (i : Int), ∀ c ∈ TL.tl (numT i), c ∈ sgs ∨ c = 45 ∨ c = 47 := fun i c hc => by
    rw [tl_numT] at hc
    rcases numC_mem hc with h | h
    · exact .inr (.inl h)
    · exact .inl (dg c h.1 h.2)
  have lt : ∀ {w : Str}, w ∈ (["join", "turn", "leave", "about", "watch", "unwatch", "go"] : List Str) → ∀ c ∈ TL.tl w, c ∈ sgs ∨ c = 45 ∨ c = 47 := fun hw c hc => .inl (lit_sgs _ hw c hc)
  intro w hw
  cases D with
  | jo n p q =>
    simp [Dd.w] at hw
    rcases hw with rfl | rfl | rfl | rfl
    · exact lt (by simp)
    · exact nm h.1
    · exact nt _
    · exact nt _
  | tu n p =>
    simp [Dd.w] at hw
    rcases hw with rfl | rfl | rfl
    · exact lt (by simp)
    · exact nm h.1
    · exact nt _
  | le n =>
    simp [Dd.w] at hw
    rcases hw with rfl | rfl
    · exact lt (by simp)
    · exact nm h
  | ab =>
    simp [Dd.w] at hw
    subst hw
    exact lt (by simp)
  | wa n ns =>
    simp [Dd.w] at hw
    rcases hw with rfl | rfl | hw
    · exact lt (by simp)
    · exact nm h.1
    · exact nm (h.2.2 _ hw)
  | un n =>
    simp [Dd.w] at hw
    rcases hw with rfl | rfl
    · exact lt (by simp)
    · exact nm h
  | go q =>
    simp [Dd.w] at hw
    rcases hw with rfl | rfl
    · exact lt (by simp)
    · intro c hc
      rw [TL.tl_append, TL.tl_append, tl_sl] at hc
      simp only [List.mem_append, List.mem_singleton] at hc
      rcases hc with (hc | hc) | hc
      · exact nt _ c hc
      · exact .inr (.inr hc)
      · exact nt _ c hc
theorem w_no32 {D : Dd} (h : D.ok) : ∀ w ∈ D.w, 32 ∉ TL.tl w := fun w hw hc => by
  rcases w_signs h w hw 32 hc with z | z | z
  · exact (sgs_lt _ z).2.1 rfl
  · cases z
  · cases z
theorem line_lt {D : Dd} (h : D.ok) : ∀ c ∈ TL.tl D.line, c < 128 := fun c hc => by
  rcases mem_jn hc with z | ⟨w, hw, z⟩
  · rw [tl_sp] at z; simp at z; omega
  · rcases w_signs h w hw c z with z | z | z
    · exact (sgs_lt _ z).1
    · omega
    · omega
theorem ok_of_lt {x : Str} (h : ∀ c ∈ TL.tl x, c < 1114112) : PyData.strOk x = true := by
  unfold PyData.strOk
  rw [← Array.all_toList, List.all_eq_true]
  intro c hc
  exact decide_eq_true (h c hc)
theorem line_ok {D : Dd} (h : D.ok) : PyData.strOk D.line = true := ok_of_lt fun c hc => Nat.lt_trans (line_lt h c hc) (by decide)
theorem line_len {D : Dd} (h : D.ok) : D.line.length ≤ 200 := by
  have h1 := jn_len " " D.w
  have h2 := w_sum h
  rw [len_sp] at h1
  unfold Dd.line
  omega
theorem word_txt {z : Str} (h : PyData.strOk z = true) : f_l_word [.da (.str z), .da (.str z)] = some (.ok (.da (.bool true)) []) := by
  have e : eqR (.da (.str z)) (.da (.str z)) = some true := by rw [eqStr h h]; simp
  unfold f_l_word b_l_word
  refine bodyF_go (by simp; rfl) (by rfl) ?_
  (first | apply seqE | apply seqO); focus (simp (disch := first | assumption | omega) [decT, decF]; rfl)
  simp [e]
end Sm

set_option exponentiation.threshold 20000
namespace Sm
open PySem L2 Cg
/-! ### reading numbers and names -/
abbrev S := SX.S
theorem seqEx {s1 s2 : FS} {ρ ρ1 : En} {c : Str} {R : Option Rt} (h : s1 ρ = some (.ex c ρ1)) (k : some (Rt.ex c []) = R) : endF [] (seqS s1 s2 ρ) = R := by rw [ev_seqS, h]; exact k
/-- a loop that stops at the first that is not good -/
theorem forL_stop {i : Nat} {b : FS} {ρ : En} {α : Type} (en : α → PyData) (p : α → Bool) (hl : i < ρ.length) : ∀ (xs : List α), xs.all p = false → (∀ x ∈ xs, p x = true → b (put ρ i (.ow (.da (en x)))) = some (.nx ρ)) → (∀ x ∈ xs, p x = false → ∃ ρ1, b (put ρ i (.ow (.da (en x)))) = some (.ex "NoTale" ρ1)) → ∃ ρ1, forL i b (xs.map en) ρ = some (.ex "NoTale" ρ1)
  | [], h, _, _ => by simp at h
  | x :: xs, h, h1, h2 => by
    rw [List.map_cons, ev_for1, if_pos hl]
    cases q : p x with
    | true =>
      rw [h1 x (by simp) q]
      exact forL_stop en p hl xs (by simpa [q] using h) (fun y m => h1 y (by simp [m])) (fun y m => h2 y (by simp [m]))
    | false =>
      obtain ⟨ρ1, e⟩ := h2 x (by simp) q
      rw [e]
      exact ⟨ρ1, rfl⟩
theorem forL_ret {i : Nat} {b : FS} {ρ : En} {α : Type} {v : Rs} (en : α → PyData) (p : α → Bool) (hl : i < ρ.length) : ∀ (xs : List α), xs.all p = false → (∀ x ∈ xs, p x = true → b (put ρ i (.ow (.da (en x)))) = some (.nx ρ)) → (∀ x ∈ xs, p x = false → ∃ ρ1, b (put ρ i (.ow (.da (en x)))) = some (.rt v ρ1)) → ∃ ρ1, forL i b (xs.map en) ρ = some (.rt v ρ1)
  | [], h, _, _ => by simp at h
  | x :: xs, h, h1, h2 => by
    rw [List.map_cons, ev_for1, if_pos hl]
    cases q : p x with
    | true =>
      rw [h1 x (by simp) q]
      exact forL_ret en p hl xs (by simpa [q] using h) (fun y m => h1 y (by simp [m])) (fun y m => h2 y (by simp [m]))
    | false =>
      obtain ⟨ρ1, e⟩ := h2 x (by simp) q
      rw [e]
      exact ⟨ρ1, rfl⟩
structure OkT (l : List Nat) : Prop where
  len : l.length ≤ 10000
  ok : ∀ c ∈ l, c < 1114112
theorem OkT.sub {l m : List Nat} (h : OkT l) (hl : m.length ≤ l.length) (hm : ∀ c ∈ m, c ∈ l) : OkT m := ⟨Nat.le_trans hl h.len, fun c hc => h.ok c (hm c hc)⟩
theorem OkT.st {l : List Nat} (h : OkT l) : PyData.strOk (S l) = true := ok_of_lt fun c hc => h.ok c hc
theorem OkT.take {l : List Nat} (h : OkT l) (n : Nat) : OkT (l.take n) := h.sub (by simp; omega) fun c hc => List.mem_of_mem_take hc
theorem OkT.drop {l : List Nat} (h : OkT l) (n : Nat) : OkT (l.drop n) := h.sub (by simp) fun c hc => List.mem_of_mem_drop hc
theorem eqT {a b : List Nat} (ha : OkT a) (hb : OkT b) : eqR (.da (.str (S a))) (.da (.str (S b))) = some (decide (a = b)) := by
  rw [eqStr ha.st hb.st]
  congr 1
  by_cases h : a = b
  · subst h; simp
  · rw [decide_eq_false h, decide_eq_false fun e => h (SX.S_inj e)]
theorem lenT {l : List Nat} (h : OkT l) : lenV (.da (.str (S l))) = some (.da (.int (l.length : Nat))) := by
  have hz : (S l).length ≤ sizeLine := sz_le (by rw [SX.S_len]; have := h.len; omega)
  show (lenR (.da (.str (S l)))).map _ = _
  simp only [lenR]
  rw [if_pos hz, SX.S_len]; rfl
theorem cutTo {l : List Nat} (h : OkT l) {k : Int} (hk : 0 ≤ k) : cutR (.da (.str (S l))) none (some k) = some (.da (.str (S (l.take k.toNat)))) := by
  show (if (S l).length ≤ sizeLine then some (Rs.da (.str (cutS (S l) none (some k)))) else none) = _
  rw [if_pos (sz_le (by rw [SX.S_len]; have := h.len; omega)), C8.cutS_slice, SX.slice_to hk]
theorem cutFrom {l : List Nat} (h : OkT l) {k : Int} (hk : 0 ≤ k) : cutR (.da (.str (S l))) (some k) none = some (.da (.str (S (l.drop k.toNat)))) := by
  show (if (S l).length ≤ sizeLine then some (Rs.da (.str (cutS (S l) (some k) none))) else none) = _
  rw [if_pos (sz_le (by rw [SX.S_len]; have := h.len; omega)), C8.cutS_slice, SX.slice_from hk]
theorem itT (l : List Nat) : itD (.str (S l)) = some (l.map fun c => .str ⟨#[c]⟩) := rfl
theorem subT0 {c : Nat} {l : List Nat} (h : OkT (c :: l)) : subR (.da (.str (S (c :: l)))) (.da (.int 0)) = some (.da (.str (S [c]))) := by
  rw [ev_subStr, if_pos (sz_le (by rw [SX.S_len]; have := h.len; omega))]
  show (atI (c :: l) 0).map _ = _
  rw [atI0]; rfl
def lit (s : Str) : List Nat := TL.tl s
theorem lit_S (s : Str) : S (lit s) = s := SX.S_tl s
theorem dash : ("-" : Str) = S [45] := by decide +kernel
theorem zero : ("0" : Str) = S [48] := by decide +kernel
theorem ok45 : OkT [45] := ⟨by decide, by decide⟩
theorem ok48 : OkT [48] := ⟨by decide, by decide⟩
def figL (x : List Nat) : List Nat := if x.take 1 = [45] then x.drop 1 else x
def isFig (c : Nat) : Bool := decide (48 ≤ c ∧ c ≤ 57)
def numOk (x : List Nat) : Bool := decide (1 ≤ (figL x).length ∧ (figL x).length ≤ 12) && (figL x).all isFig && !(decide ((figL x).take 1 = [48]) && !decide (x = [48]))
def numV (x : List Nat) : Int := if x.take 1 = [45] then -((NumText.digitsVal (figL x) : Nat) : Int) else ((NumText.digitsVal x : Nat) : Int)
theorem in_figs (c : Nat) : inR (.da (.str ⟨#[c]⟩)) (.da (.str (Str.ofString "0123456789"))) = some (isFig c) := by
  show some (decide (c ∈ (Str.ofString "0123456789").cps.toList)) = _
  have e : (Str.ofString "0123456789").cps.toList = List.range' 48 10 := by decide +kernel
  rw [e]
  congr 1
  unfold isFig
  by_cases h : 48 ≤ c ∧ c ≤ 57
  · rw [decide_eq_true h, decide_eq_true (by rw [List.mem_range'_1]; omega)]
  · rw [decide_eq_false h, decide_eq_false (by rw [List.mem_range'_1]; omega)]
theorem fig_ok {x : List Nat} (h : OkT x) : OkT (figL x) := by
  unfold figL
  split
  · exact h.drop 1
  · exact h
theorem int_of {x : List Nat} (h : numOk x = true) : PySem.intText? (S x) = some (numV x) ∧ (S x).length ≤ 640 := by
  unfold numOk at h
  rw [Bool.and_eq_true, Bool.and_eq_true] at h
  obtain ⟨⟨h1, h2⟩, _⟩ := h
  have h1 := of_decide_eq_true h1
  have ad : NumText.AllDigits (figL x) := fun c hc => of_decide_eq_true (List.all_eq_true.mp h2 c hc)
  have ne : figL x ≠ [] := fun z => by rw [z] at h1; simp at h1
  unfold numV
  by_cases hm : x.take 1 = [45]
  · have ef : figL x = x.drop 1 := if_pos hm
    have ex : x = 45 :: figL x := by rw [ef, ← List.take_append_drop 1 x, hm]; simp
    have hl : (S x).length ≤ 640 := by rw [SX.S_len, ex]; simp; omega
    rw [if_pos hm]
    exact ⟨intText_neg (x := S x) (cs := figL x) (by show x = _; exact ex) ad ne (by omega), hl⟩
  · have ef : figL x = x := if_neg hm
    rw [ef] at ad ne h1
    have hl : (S x).length ≤ 640 := by rw [SX.S_len]; omega
    rw [if_neg hm]
    exact ⟨intText_digits (x := S x) ad ne (by omega), hl⟩
theorem it1 {x : List Nat} (h : numOk x = true) : itR1 (.da (.str (S x))) = some (.da (.int (numV x))) := by
  obtain ⟨a, b⟩ := int_of h
  show (if (S x).length ≤ 640 then (PySem.intText? (S x)).map fun n => Rs.da (.int n) else none) = _
  rw [if_pos b, a]; rfl
theorem f_whole_of_eq {x : List Nat} (hx : OkT x) : f_whole_of [.da (.str (S x))] = if numOk x = true then some (.ok (.da (.int (numV x))) []) else some (.ex "NoTale" []) := by
  have hf := fig_ok hx
  have c1 := cutTo hx (k := 1) (by decide)
  have c2 := cutFrom hx (k := 1) (by decide)
  have e1 := eqT (hx.take 1) ok45
  have e2 := eqT hx ok48
  have l1 := lenT hf
  rw [← dash] at e1
  rw [← zero] at e2
  simp only [show (1 : Int).toNat = 1 from rfl] at c1 c2
  unfold f_whole_of b_whole_of
  refine bodyF_go (by simp; rfl) (by rfl) ?_
  (first | apply seqE | apply seqO); focus (simp (disch := first | assumption | omega) [decT, decF]; rfl)
  refine seqE (ρ1 := [.bo (.da (.str (S x))), .ow (.da (.str (S (figL x)))), .un]) ?_ ?_
  · by_cases hm : x.take 1 = [45]
    · have ef : figL x = x.drop 1 := if_pos hm
      rw [ef]
      rw [decide_eq_true hm] at e1
      simp [c1, e1, c2]
    · have ef : figL x = x := if_neg hm
      rw [ef]
      rw [decide_eq_false hm] at e1
      simp [c1, e1]
  have hnum : numOk x = (decide (1 ≤ (figL x).length ∧ (figL x).length ≤ 12) && (figL x).all isFig && !(decide ((figL x).take 1 = [48]) && !decide (x = [48]))) := rfl
  have hn1 := @it1 x
  generalize figL x = f at *
  by_cases g1 : 1 ≤ f.length ∧ f.length ≤ 12
  rotate_left
  · rw [hnum, decide_eq_false g1]
    refine seqEx (c := "NoTale") (ρ1 := [.bo (.da (.str (S x))), .ow (.da (.str (S f))), .un]) ?_ (by simp)
    by_cases z : f.length < 1
    · simp [l1, show (f.length : Int) < 1 by omega]
    · simp [l1, show ¬ (f.length : Int) < 1 by omega, show (12 : Int) < (f.length : Int) by omega]
  rw [decide_eq_true g1] at hnum
  (first | apply seqE | apply seqO); focus (simp [l1, show ¬ (f.length : Int) < 1 by omega, show ¬ (12 : Int) < (f.length : Int) by omega]; rfl)
  by_cases g2 : f.all isFig = true
  rotate_left
  · rw [Bool.not_eq_true] at g2
    obtain ⟨ρ1, lp⟩ := forL_stop (i := 2) (b := w_whole_of_0) (ρ := [.bo (.da (.str (S x))), .ow (.da (.str (S f))), .un]) (fun c : Nat => PyData.str ⟨#[c]⟩) isFig (by simp) f g2
      (fun c _ hc => by simp [w_whole_of_0, in_figs, hc, Cg.notInR]) (fun c _ hc => by
        refine ⟨[.bo (.da (.str (S x))), .ow (.da (.str (S f))), .ow (.da (.str ⟨#[c]⟩))], ?_⟩
        simp [w_whole_of_0, in_figs, hc, Cg.notInR])
    rw [hnum, g2]
    refine seqEx (c := "NoTale") (ρ1 := ρ1) ?_ (by simp)
    simp [itT, lp]
  have lp := forL_same (i := 2) (b := w_whole_of_0) (ρ := [.bo (.da (.str (S x))), .ow (.da (.str (S f))), .un]) (fun c : Nat => PyData.str ⟨#[c]⟩) (by simp) f (fun c hc => .inl (by
      simp [w_whole_of_0, in_figs, List.all_eq_true.mp g2 c hc, Cg.notInR]))
  (first | apply seqE | apply seqO); focus (simp (disch := first | assumption | omega) [decT, decF, itT, lp]; rfl)
  obtain ⟨c, r, rfl⟩ : ∃ c r, f = c :: r := by
    cases f with
    | nil => simp at g1
    | cons c r => exact ⟨c, r, rfl⟩
  have s0 := subT0 hf
  have e3 := eqT (hf.sub (m := [c]) (by simp) (by simp)) ok48
  rw [← zero] at e3
  rw [g2] at hnum
  generalize S [c] = sc at *
  by_cases g3 : [c] = [48] ∧ ¬ x = [48]
  · rw [decide_eq_true (show (c :: r).take 1 = [48] from g3.1), decide_eq_false g3.2] at hnum
    rw [hnum]
    refine seqEx (c := "NoTale") (ρ1 := [.bo (.da (.str (S x))), .ow (.da (.str (S (c :: r)))), .un]) ?_ (by simp)
    rw [decide_eq_true g3.1] at e3
    rw [decide_eq_false g3.2] at e2
    simp [s0, e3, e2]
  · have hy : numOk x = true := by
      rw [hnum]
      by_cases z : [c] = [48]
      · have : x = [48] := Decidable.byContradiction fun w => g3 ⟨z, w⟩
        rw [decide_eq_true this]; simp
      · rw [decide_eq_false (show ¬ (c :: r).take 1 = [48] from z)]; simp
    rw [if_pos hy]
    have i1 := hn1 hy
    by_cases z : [c] = [48]
    · have w : x = [48] := Decidable.byContradiction fun w => g3 ⟨z, w⟩
      rw [decide_eq_true z] at e3
      rw [decide_eq_true w] at e2
      (first | apply seqE | apply seqO); focus (simp (disch := first | assumption | omega) [decT, decF, s0, e3, e2]; rfl)
      simp [i1]
    · rw [decide_eq_false z] at e3
      (first | apply seqE | apply seqO); focus (simp (disch := first | assumption | omega) [decT, decF, s0, e3]; rfl)
      simp [i1]
end Sm

set_option exponentiation.threshold 20000
namespace Sm
open PySem L2 Cg
def nmOk (n : List Nat) : Bool := decide (1 ≤ n.length ∧ n.length ≤ 8) && n.all fun c => decide (c ∈ sgs)
theorem in_sgs (c : Nat) : inR (.da (.str ⟨#[c]⟩)) (.da (.str (Str.ofString "abcdefghijklmnopqrstuvwxyz0123456789"))) = some (decide (c ∈ sgs)) := rfl
theorem f_good_name_eq {n : List Nat} (h : OkT n) : f_good_name [.da (.str (S n))] = some (.ok (.da (.bool (nmOk n))) []) := by
  have l1 := lenT h
  unfold f_good_name b_good_name
  refine bodyF_go (by simp; rfl) (by rfl) ?_
  by_cases g1 : 1 ≤ n.length ∧ n.length ≤ 8
  rotate_left
  · refine seqRt (x := .da (.bool false)) (ρ1 := [.bo (.da (.str (S n))), .un]) ?_ (by unfold nmOk; rw [decide_eq_false g1]; rfl)
    by_cases z : n.length < 1
    · simp [l1, show (n.length : Int) < 1 by omega]
    · simp [l1, show ¬ (n.length : Int) < 1 by omega, show (8 : Int) < (n.length : Int) by omega]
  (first | apply seqE | apply seqO); focus (simp [l1, show ¬ (n.length : Int) < 1 by omega, show ¬ (8 : Int) < (n.length : Int) by omega]; rfl)
  have hn : nmOk n = n.all fun c => decide (c ∈ sgs) := by unfold nmOk; rw [decide_eq_true g1, Bool.true_and]
  rw [hn]
  by_cases g2 : (n.all fun c => decide (c ∈ sgs)) = true
  · have lp := forL_same (i := 1) (b := w_good_name_0) (ρ := [.bo (.da (.str (S n))), .un]) (fun c : Nat => PyData.str ⟨#[c]⟩) (by simp) n (fun c hc => .inl (by
      simp [w_good_name_0, in_sgs, of_decide_eq_true (List.all_eq_true.mp g2 c hc), Cg.notInR]))
    rw [g2]
    (first | apply seqE | apply seqO); focus (simp (disch := first | assumption | omega) [decT, decF, itT, lp]; rfl)
    simp
  · rw [Bool.not_eq_true] at g2
    obtain ⟨ρ1, lp⟩ := forL_ret (v := .da (.bool false)) (i := 1) (b := w_good_name_0) (ρ := [.bo (.da (.str (S n))), .un]) (fun c : Nat => PyData.str ⟨#[c]⟩) (fun c => decide (c ∈ sgs)) (by simp) n g2
      (fun c _ hc => by simp [w_good_name_0, in_sgs, of_decide_eq_true hc, Cg.notInR]) (fun c _ hc => by
        refine ⟨[.bo (.da (.str (S n))), .ow (.da (.str ⟨#[c]⟩))], ?_⟩
        simp [w_good_name_0, in_sgs, of_decide_eq_false hc, Cg.notInR])
    rw [g2]
    refine seqRt (x := .da (.bool false)) (ρ1 := ρ1) ?_ (by rfl)
    simp [itT, lp]
theorem f_name_of_eq {n : List Nat} (h : OkT n) : f_name_of [.da (.str (S n))] = if nmOk n = true then some (.ok (.da (.str (S n))) []) else some (.ex "NoTale" []) := by
  have g := f_good_name_eq h
  unfold f_name_of b_name_of
  refine bodyF_go (by simp; rfl) (by rfl) ?_
  by_cases z : nmOk n = true
  · rw [z] at g
    rw [if_pos z]
    simp [g]
  · rw [if_neg z]
    rw [Bool.not_eq_true] at z
    rw [z] at g
    refine seqEx (c := "NoTale") (ρ1 := [.bo (.da (.str (S n)))]) ?_ rfl
    simp [g]
/-! splitting -/
theorem spl_sub (s : Nat) : ∀ (l acc : List Nat), ∀ p ∈ TL.spl [s] 0 acc l, p.length ≤ acc.length + l.length ∧ ∀ c ∈ p, c ∈ acc ∨ c ∈ l
  | [], acc, p, hp => by
    rw [TL.spl_nil] at hp
    simp at hp
    subst hp
    exact ⟨by simp, fun c hc => .inl hc⟩
  | c :: r, acc, p, hp => by
    cases h : TL.pre [s] (c :: r) with
    | true =>
      rw [TL.spl_hit h] at hp
      rcases List.mem_cons.mp hp with rfl | hp
      · exact ⟨by simp, fun c hc => .inl hc⟩
      · obtain ⟨a, b⟩ := spl_sub s r [] p hp
        exact ⟨by simp at a ⊢; omega, fun x hx => by
          rcases b x hx with z | z
          · simp at z
          · exact .inr (by simp [z])⟩
    | false =>
      rw [TL.spl_miss h] at hp
      obtain ⟨a, b⟩ := spl_sub s r (acc ++ [c]) p hp
      refine ⟨by simp at a ⊢; omega, fun x hx => ?_⟩
      rcases b x hx with z | z
      · rcases List.mem_append.mp z with z | z
        · exact .inl z
        · simp at z; exact .inr (by simp [z])
      · exact .inr (by simp [z])
theorem spl_pos (s : Nat) : ∀ (l acc : List Nat), TL.spl [s] 0 acc l ≠ []
  | [], acc => by rw [TL.spl_nil]; simp
  | c :: r, acc => by
    cases h : TL.pre [s] (c :: r) with
    | true => rw [TL.spl_hit h]; simp
    | false => rw [TL.spl_miss h]; exact spl_pos s r _
theorem spl_len (s : Nat) : ∀ (l acc : List Nat), (TL.spl [s] 0 acc l).length ≤ l.length + 1
  | [], acc => by rw [TL.spl_nil]; simp
  | c :: r, acc => by
    cases h : TL.pre [s] (c :: r) with
    | true =>
      rw [TL.spl_hit h]
      have := spl_len s r []
      simp at this ⊢; omega
    | false =>
      rw [TL.spl_miss h]
      have := spl_len s r (acc ++ [c])
      simp at this ⊢; omega
abbrev wsp (x : List Nat) : List (List Nat) := TL.spl [32] 0 [] x
abbrev psl (x : List Nat) : List (List Nat) := TL.spl [47] 0 [] x
theorem OkT.ws {x : List Nat} (h : OkT x) : ∀ p ∈ wsp x, OkT p := fun p hp => by
  obtain ⟨a, b⟩ := spl_sub 32 x [] p hp
  exact h.sub (by simpa using a) fun c hc => (b c hc).elim (fun z => by simp at z) id
theorem OkT.ps {x : List Nat} (h : OkT x) : ∀ p ∈ psl x, OkT p := fun p hp => by
  obtain ⟨a, b⟩ := spl_sub 47 x [] p hp
  exact h.sub (by simpa using a) fun c hc => (b c hc).elim (fun z => by simp at z) id
theorem sp_S : (" " : Str) = S [32] := by decide +kernel
theorem sl_S : ("/" : Str) = S [47] := by decide +kernel
def ssD (ws : List (List Nat)) : List PyData := ws.map fun w => .str (S w)
theorem ss_len (ws : List (List Nat)) : (ssD ws).length = ws.length := by simp [ssD]
theorem split_w {x : List Nat} (h : OkT x) {sd sd' : FD} {ρ : En} (e1 : sd ρ = some (.ok (.str (S x)))) (e2 : sd' ρ = some (.ok (.str " "))) : splC sd sd' ρ = some (.ok (.lst (ssD (wsp x)))) := by
  unfold splC
  rw [e1, e2]
  show (if (((" " : Str).length == 0) = false ∧ (S x).length + 2 ≤ sizeLine) then some (Rz.ok (Rs.lst ((Txt.split (S x) " ").map .str))) else none) = _
  rw [if_pos ⟨by decide +kernel, sz_le (by rw [SX.S_len]; have := h.len; omega)⟩, sp_S, SX.split_S (by decide) (by decide)]
  simp [ssD]
theorem split_s {x : List Nat} (h : OkT x) {sd sd' : FD} {ρ : En} (e1 : sd ρ = some (.ok (.str (S x)))) (e2 : sd' ρ = some (.ok (.str "/"))) : splC sd sd' ρ = some (.ok (.lst (ssD (psl x)))) := by
  unfold splC
  rw [e1, e2]
  show (if (((" " : Str).length == 0) = false ∧ (S x).length + 2 ≤ sizeLine) then some (Rz.ok (Rs.lst ((Txt.split (S x) "/").map .str))) else none) = _
  rw [if_pos ⟨by decide +kernel, sz_le (by rw [SX.S_len]; have := h.len; omega)⟩, sl_S, SX.split_S (by decide) (by decide)]
  simp [ssD]
def momOk (a b : List Nat) : Bool := numOk a && numOk b && decide (0 ≤ numV a ∧ 1 ≤ numV b ∧ Int.gcd (numV a) (numV b) = 1)
def momP : List (List Nat) → Option (Int × Int)
  | [a, b] => if momOk a b = true then some (numV a, numV b) else none
  | _ => none
theorem momP_ne {P : List (List Nat)} (h : P.length ≠ 2) : momP P = none := by
  match P, h with
  | [], _ => rfl
  | [_], _ => rfl
  | [_, _], h => exact absurd rfl h
  | _ :: _ :: _ :: _, _ => rfl
def momOf (x : List Nat) : Option (Int × Int) := momP (psl x)
theorem f_moment_of_eq {x : List Nat} (h : OkT x) : f_moment_of [.da (.str (S x))] = match momOf x with
    | some (t, b) => some (.ok (.da (.tuple [.int t, .int b])) [])
    | none => some (.ex "NoTale" []) := by
  have hs := split_s h (sd := dtA (varC 0)) (sd' := cstC (.str "/")) (ρ := [.bo (.da (.str (S x))), .un, .un, .un]) (by simp) rfl
  have ok := h.ps
  unfold f_moment_of b_moment_of
  refine bodyF_go (by simp; rfl) (by rfl) ?_
  refine seqE (ρ1 := [.bo (.da (.str (S x))), .ow (.da (.list (ssD (psl x)))), .un, .un]) (by simp only [ev_setS, ev_fzE, ev_qE, hs]; rfl) ?_
  unfold momOf
  generalize psl x = P at ok
  by_cases h2 : P.length = 2
  rotate_left
  · rw [momP_ne h2]
    refine seqEx (c := "NoTale") (ρ1 := [.bo (.da (.str (S x))), .ow (.da (.list (ssD P))), .un, .un]) ?_ rfl
    simp [ss_len, show ¬ (P.length : Int) = 2 by omega]
  obtain ⟨a, b, rfl⟩ : ∃ a b, P = [a, b] := by
    match P, h2 with
    | [a, b], _ => exact ⟨a, b, rfl⟩
  have wa := f_whole_of_eq (ok a (by simp))
  have wb := f_whole_of_eq (ok b (by simp))
  rw [show ssD [a, b] = [.str (S a), .str (S b)] from rfl]
  show _ = match (if momOk a b = true then some (numV a, numV b) else none) with
    | some (t, b) => some (Rt.ok (.da (.tuple [.int t, .int b])) [])
    | none => some (.ex "NoTale" [])
  (first | apply seqE | apply seqO); focus (simp (disch := first | assumption | omega) [decT, decF]; rfl)
  by_cases na : numOk a = true
  rotate_left
  · rw [if_neg na] at wa
    rw [if_neg (by unfold momOk; simp [na])]
    refine seqEx (c := "NoTale") (ρ1 := [.bo (.da (.str (S x))), .ow (.da (.list [.str (S a), .str (S b)])), .un, .un]) ?_ rfl
    simp [atI0, wa]
  rw [if_pos na] at wa
  (first | apply seqE | apply seqO); focus (simp (disch := first | assumption | omega) [decT, decF, atI0, wa]; rfl)
  by_cases nb : numOk b = true
  rotate_left
  · rw [if_neg nb] at wb
    rw [if_neg (by unfold momOk; simp [nb])]
    refine seqEx (c := "NoTale") (ρ1 := [.bo (.da (.str (S x))), .ow (.da (.list [.str (S a), .str (S b)])), .ow (.da (.int (numV a))), .un]) ?_ rfl
    simp [atI1, wb]
  rw [if_pos nb] at wb
  (first | apply seqE | apply seqO); focus (simp (disch := first | assumption | omega) [decT, decF, atI1, wb]; rfl)
  have sh := f_shared_eq (numV a) (numV b)
  have mo : momOk a b = decide (0 ≤ numV a ∧ 1 ≤ numV b ∧ Int.gcd (numV a) (numV b) = 1) := by unfold momOk; simp [na, nb]
  rw [mo]
  generalize numV a = u at *
  generalize numV b = v at *
  by_cases hc : 0 ≤ u ∧ 1 ≤ v ∧ Int.gcd u v = 1
  · rw [if_pos (decide_eq_true hc)]
    obtain ⟨c1, c2, c3⟩ := hc
    (first | apply seqE | apply seqO); focus (simp [sh, c3, show ¬ u < 0 by omega, show ¬ v < 1 by omega]; rfl)
    simp
  · rw [if_neg (by simpa using hc)]
    refine seqEx (c := "NoTale") (ρ1 := [.bo (.da (.str (S x))), .ow (.da (.list [.str (S a), .str (S b)])), .ow (.da (.int u)), .ow (.da (.int v))]) ?_ rfl
    by_cases c1 : u < 0
    · simp [c1]
    · by_cases c2 : v < 1
      · simp [c1, c2]
      · have c3 : ¬ Int.gcd u v = 1 := fun z => hc ⟨by omega, by omega, z⟩
        simp [c1, c2, sh, show ¬ ((Int.gcd u v : Nat) : Int) = 1 by omega]
end Sm

set_option exponentiation.threshold 20000
namespace Sm
open PySem L2 Cg
/-! ### a line read: the deed that its words tell -/
def wAt (ws : List (List Nat)) (k : Nat) : List Nat := ws.getD k []
def rdD (ws : List (List Nat)) : Option PyData :=
  if wAt ws 0 = lit "about" ∧ ws.length = 1 then some (.tuple [.str "about"])
  else if wAt ws 0 = lit "join" ∧ ws.length = 4 then (if (nmOk (wAt ws 1) && numOk (wAt ws 2) && numOk (wAt ws 3)) = true then some (.tuple [.str "join", .str (S (wAt ws 1)), .int (numV (wAt ws 2)), .int (numV (wAt ws 3))]) else none)
  else if wAt ws 0 = lit "turn" ∧ ws.length = 3 then (if (nmOk (wAt ws 1) && numOk (wAt ws 2)) = true then some (.tuple [.str "turn", .str (S (wAt ws 1)), .int (numV (wAt ws 2))]) else none)
  else if wAt ws 0 = lit "go" ∧ ws.length = 2 then (momOf (wAt ws 1)).map fun p => .tuple [.str "go", .tuple [.int p.1, .int p.2]]
  else if (wAt ws 0 = lit "leave" ∨ wAt ws 0 = lit "unwatch") ∧ ws.length = 2 then (if nmOk (wAt ws 1) = true then some (.tuple [.str (S (wAt ws 0)), .str (S (wAt ws 1))]) else none)
  else if wAt ws 0 = lit "watch" ∧ 2 ≤ ws.length then (if (nmOk (wAt ws 1) && (ws.drop 2).all nmOk) = true then some (.tuple [.str "watch", .str (S (wAt ws 1)), .tuple (ssD (ws.drop 2))]) else none)
  else none
theorem ss_at {ws : List (List Nat)} {k : Nat} (h : k < ws.length) : atI (ssD ws) ((k : Nat) : Int) = some (.str (S (wAt ws k))) := by
  rw [atI_nat]
  unfold ssD wAt
  rw [List.getElem?_map, List.getElem?_eq_getElem h, List.getD_eq_getElem?_getD, List.getElem?_eq_getElem h]
  rfl
theorem wAt_ok {ws : List (List Nat)} (h : ∀ p ∈ ws, OkT p) (k : Nat) : OkT (wAt ws k) := by
  unfold wAt
  rw [List.getD_eq_getElem?_getD]
  cases q : ws[k]? with
  | none => exact ⟨by simp, by simp⟩
  | some p => exact h p (List.mem_of_getElem? q)
theorem lit_ok {X : Str} (h : (decide ((lit X).length ≤ 10000) && (lit X).all fun c => decide (c < 1114112)) = true) : OkT (lit X) := by
  rw [Bool.and_eq_true] at h
  exact ⟨of_decide_eq_true h.1, fun c hc => of_decide_eq_true (List.all_eq_true.mp h.2 c hc)⟩
theorem eqL {w : List Nat} (h : OkT w) {X : Str} (hX : (decide ((lit X).length ≤ 10000) && (lit X).all fun c => decide (c < 1114112)) = true) : eqR (.da (.str (S w))) (.da (.str X)) = some (decide (w = lit X)) := by
  have := eqT h (lit_ok hX)
  rw [lit_S] at this
  exact this
theorem cut2 (ds : List PyData) : cutG ds (some 2) none = ds.drop 2 := cut_from ds 2
theorem cut1 (ds : List PyData) : cutG ds (some 1) none = ds.drop 1 := cut_from ds 1
theorem f_deed_of_eq {x : List Nat} (h : OkT x) (hw : wAt (wsp x) 0 = lit "watch" → ((wsp x).drop 2).all nmOk = true) : f_deed_of [.da (.str (S x))] = match rdD (wsp x) with
    | some d => some (.ok (.da d) [])
    | none => some (.ex "NoTale" []) := by
  have hs := split_w h (sd := dtA (varC 0)) (sd' := cstC (.str " ")) (ρ := [.bo (.da (.str (S x))), .un, .un, .un, .un, .un]) (by simp) rfl
  have ok := h.ws
  have np : wsp x ≠ [] := spl_pos 32 x []
  unfold f_deed_of b_deed_of
  refine bodyF_go (by simp; rfl) (by rfl) ?_
  refine seqE (ρ1 := [.bo (.da (.str (S x))), .ow (.da (.list (ssD (wsp x)))), .un, .un, .un, .un]) (by simp only [ev_setS, ev_fzE, ev_qE, hs]; rfl) ?_
  have hlen : (wsp x).length ≤ x.length + 1 := spl_len 32 x []
  have hxl := h.len
  generalize wsp x = ws at *
  have n0 : 0 < ws.length := by
    cases ws with
    | nil => exact absurd rfl np
    | cons _ _ => simp
  have a0 := ss_at n0
  have a1 : 2 ≤ ws.length → atI (ssD ws) 1 = some (.str (S (wAt ws 1))) := fun z => ss_at (k := 1) (by omega)
  have a2 : 3 ≤ ws.length → atI (ssD ws) 2 = some (.str (S (wAt ws 2))) := fun z => ss_at (k := 2) (by omega)
  have a3 : 4 ≤ ws.length → atI (ssD ws) 3 = some (.str (S (wAt ws 3))) := fun z => ss_at (k := 3) (by omega)
  have o0 := wAt_ok ok 0
  have n1 := f_name_of_eq (wAt_ok ok 1)
  have w1 := f_moment_of_eq (wAt_ok ok 1)
  have v2 := f_whole_of_eq (wAt_ok ok 2)
  have v3 := f_whole_of_eq (wAt_ok ok 3)
  have eA := eqL o0 (X := "about") (by decide +kernel)
  have eJ := eqL o0 (X := "join") (by decide +kernel)
  have eT := eqL o0 (X := "turn") (by decide +kernel)
  have eG := eqL o0 (X := "go") (by decide +kernel)
  have eW := eqL o0 (X := "watch") (by decide +kernel)
  have eI : inSR (.da (.str (S (wAt ws 0)))) (.da (.tuple [.str "leave", .str "unwatch"])) = some (decide (wAt ws 0 = lit "leave" ∨ wAt ws 0 = lit "unwatch")) := by
    show some (decide (S (wAt ws 0) ∈ (["leave", "unwatch"] : List Str))) = _
    congr 1
    have e1 : S (wAt ws 0) = "leave" ↔ wAt ws 0 = lit "leave" := by
      rw [← lit_S "leave"]; exact ⟨fun z => SX.S_inj z, fun z => by rw [z]; rfl⟩
    have e2 : S (wAt ws 0) = "unwatch" ↔ wAt ws 0 = lit "unwatch" := by
      rw [← lit_S "unwatch"]; exact ⟨fun z => SX.S_inj z, fun z => by rw [z]; rfl⟩
    simp only [List.mem_cons, List.not_mem_nil, or_false, e1, e2]
  have hl := ss_len ws
  unfold rdD
  have sA : S (lit "about") = "about" := lit_S _
  have sJ : S (lit "join") = "join" := lit_S _
  have sT : S (lit "turn") = "turn" := lit_S _
  have sG : S (lit "go") = "go" := lit_S _
  have sW : S (lit "watch") = "watch" := lit_S _
  have hdrop : (ssD ws).drop 2 = (ws.drop 2).map fun w => PyData.str (S w) := by unfold ssD; rw [List.map_drop]
  rw [show ((0 : Nat) : Int) = 0 from rfl] at a0
  generalize hM : momOf (wAt ws 1) = M1 at *
  generalize hw0 : wAt ws 0 = x0 at *
  generalize wAt ws 1 = x1 at *
  generalize wAt ws 2 = x2 at *
  generalize wAt ws 3 = x3 at *
  obtain ⟨W, hW⟩ : ∃ W, W = ssD ws := ⟨_, rfl⟩
  rw [← hW] at a0 a1 a2 a3 hl hdrop ⊢
  (first | apply seqE | apply seqO); focus (simp (disch := first | assumption | omega) [decT, decF, a0]; rfl)
  (first | apply seqE | apply seqO); focus (simp (disch := first | assumption | omega) [decT, decF, hl]; rfl)
  -- about
  by_cases cA : x0 = lit "about" ∧ ws.length = 1
  · rw [if_pos cA]
    obtain ⟨c1, c2⟩ := cA
    subst c1
    rw [decide_eq_true rfl] at eA
    refine seqRt (x := .da (.tuple [.str "about"])) (ρ1 := [.bo (.da (.str (S x))), .ow (.da (.list W)), .ow (.da (.str (S (lit "about")))), .ow (.da (.int (ws.length : Nat))), .un, .un]) ?_ rfl
    simp [eA, c2, sA]
  rw [if_neg cA]
  have tA : andT (cm2 eqR (varC 2) (vD (cstC (.str (Str.ofString "about"))))) (cm2 eqR (varC 3) (vD (cstC (.int 1)))) [.bo (.da (.str (S x))), .ow (.da (.list W)), .ow (.da (.str (S x0))), .ow (.da (.int (ws.length : Nat))), .un, .un] = some false := by
    by_cases z : x0 = lit "about"
    · have z2 : ¬ (ws.length : Int) = 1 := fun q => cA ⟨z, by omega⟩
      rw [decide_eq_true z] at eA
      simp [eA, z2]
    · rw [decide_eq_false z] at eA
      simp [eA]
  refine seqE (ρ1 := [.bo (.da (.str (S x))), .ow (.da (.list W)), .ow (.da (.str (S x0))), .ow (.da (.int (ws.length : Nat))), .un, .un]) (by rw [ev_ifS, ev_qT, tA]; rfl) ?_
  -- join
  by_cases cJ : x0 = lit "join" ∧ ws.length = 4
  · rw [if_pos cJ]
    obtain ⟨c1, c2⟩ := cJ
    subst c1
    rw [decide_eq_true rfl] at eJ
    have b1 := a1 (by omega)
    have b2 := a2 (by omega)
    have b3 := a3 (by omega)
    by_cases g1 : nmOk x1 = true
    rotate_left
    · rw [if_neg g1] at n1
      rw [if_neg (by simp [g1])]
      refine seqEx (c := "NoTale") (ρ1 := [.bo (.da (.str (S x))), .ow (.da (.list W)), .ow (.da (.str (S (lit "join")))), .ow (.da (.int (ws.length : Nat))), .un, .un]) ?_ rfl
      simp [eJ, c2, b1, n1]
    rw [if_pos g1] at n1
    by_cases g2 : numOk x2 = true
    rotate_left
    · rw [if_neg g2] at v2
      rw [if_neg (by simp [g2])]
      refine seqEx (c := "NoTale") (ρ1 := [.bo (.da (.str (S x))), .ow (.da (.list W)), .ow (.da (.str (S (lit "join")))), .ow (.da (.int (ws.length : Nat))), .un, .un]) ?_ rfl
      simp [eJ, c2, b1, n1, b2, v2]
    rw [if_pos g2] at v2
    by_cases g3 : numOk x3 = true
    rotate_left
    · rw [if_neg g3] at v3
      rw [if_neg (by simp [g3])]
      refine seqEx (c := "NoTale") (ρ1 := [.bo (.da (.str (S x))), .ow (.da (.list W)), .ow (.da (.str (S (lit "join")))), .ow (.da (.int (ws.length : Nat))), .un, .un]) ?_ rfl
      simp [eJ, c2, b1, n1, b2, v2, b3, v3]
    rw [if_pos g3] at v3
    rw [if_pos (by simp [g1, g2, g3])]
    refine seqRt (x := .da (.tuple [.str "join", .str (S x1), .int (numV x2), .int (numV x3)])) (ρ1 := [.bo (.da (.str (S x))), .ow (.da (.list W)), .ow (.da (.str (S (lit "join")))), .ow (.da (.int (ws.length : Nat))), .un, .un]) ?_ rfl
    simp [eJ, c2, b1, n1, b2, v2, b3, v3, sJ]
  rw [if_neg cJ]
  have tJ : andT (cm2 eqR (varC 2) (vD (cstC (.str (Str.ofString "join"))))) (cm2 eqR (varC 3) (vD (cstC (.int 4)))) [.bo (.da (.str (S x))), .ow (.da (.list W)), .ow (.da (.str (S x0))), .ow (.da (.int (ws.length : Nat))), .un, .un] = some false := by
    by_cases z : x0 = lit "join"
    · have z2 : ¬ (ws.length : Int) = 4 := fun q => cJ ⟨z, by omega⟩
      rw [decide_eq_true z] at eJ
      simp [eJ, z2]
    · rw [decide_eq_false z] at eJ
      simp [eJ]
  refine seqE (ρ1 := [.bo (.da (.str (S x))), .ow (.da (.list W)), .ow (.da (.str (S x0))), .ow (.da (.int (ws.length : Nat))), .un, .un]) (by rw [ev_ifS, ev_qT, tJ]; rfl) ?_
  -- turn
  by_cases cT : x0 = lit "turn" ∧ ws.length = 3
  · rw [if_pos cT]
    obtain ⟨c1, c2⟩ := cT
    subst c1
    rw [decide_eq_true rfl] at eT
    have b1 := a1 (by omega)
    have b2 := a2 (by omega)
    by_cases g1 : nmOk x1 = true
    rotate_left
    · rw [if_neg g1] at n1
      rw [if_neg (by simp [g1])]
      refine seqEx (c := "NoTale") (ρ1 := [.bo (.da (.str (S x))), .ow (.da (.list W)), .ow (.da (.str (S (lit "turn")))), .ow (.da (.int (ws.length : Nat))), .un, .un]) ?_ rfl
      simp [eT, c2, b1, n1]
    rw [if_pos g1] at n1
    by_cases g2 : numOk x2 = true
    rotate_left
    · rw [if_neg g2] at v2
      rw [if_neg (by simp [g2])]
      refine seqEx (c := "NoTale") (ρ1 := [.bo (.da (.str (S x))), .ow (.da (.list W)), .ow (.da (.str (S (lit "turn")))), .ow (.da (.int (ws.length : Nat))), .un, .un]) ?_ rfl
      simp [eT, c2, b1, n1, b2, v2]
    rw [if_pos g2] at v2
    rw [if_pos (by simp [g1, g2])]
    refine seqRt (x := .da (.tuple [.str "turn", .str (S x1), .int (numV x2)])) (ρ1 := [.bo (.da (.str (S x))), .ow (.da (.list W)), .ow (.da (.str (S (lit "turn")))), .ow (.da (.int (ws.length : Nat))), .un, .un]) ?_ rfl
    simp [eT, c2, b1, n1, b2, v2, sT]
  rw [if_neg cT]
  have tT : andT (cm2 eqR (varC 2) (vD (cstC (.str (Str.ofString "turn"))))) (cm2 eqR (varC 3) (vD (cstC (.int 3)))) [.bo (.da (.str (S x))), .ow (.da (.list W)), .ow (.da (.str (S x0))), .ow (.da (.int (ws.length : Nat))), .un, .un] = some false := by
    by_cases z : x0 = lit "turn"
    · have z2 : ¬ (ws.length : Int) = 3 := fun q => cT ⟨z, by omega⟩
      rw [decide_eq_true z] at eT
      simp [eT, z2]
    · rw [decide_eq_false z] at eT
      simp [eT]
  refine seqE (ρ1 := [.bo (.da (.str (S x))), .ow (.da (.list W)), .ow (.da (.str (S x0))), .ow (.da (.int (ws.length : Nat))), .un, .un]) (by rw [ev_ifS, ev_qT, tT]; rfl) ?_
  -- go
  by_cases cG : x0 = lit "go" ∧ ws.length = 2
  · rw [if_pos cG]
    obtain ⟨c1, c2⟩ := cG
    subst c1
    rw [decide_eq_true rfl] at eG
    have b1 := a1 (by omega)
    cases M1 with
    | none =>
      refine seqEx (c := "NoTale") (ρ1 := [.bo (.da (.str (S x))), .ow (.da (.list W)), .ow (.da (.str (S (lit "go")))), .ow (.da (.int (ws.length : Nat))), .un, .un]) ?_ rfl
      simp [eG, c2, b1, w1]
    | some p =>
      refine seqRt (x := .da (.tuple [.str "go", .tuple [.int p.1, .int p.2]])) (ρ1 := [.bo (.da (.str (S x))), .ow (.da (.list W)), .ow (.da (.str (S (lit "go")))), .ow (.da (.int (ws.length : Nat))), .un, .un]) ?_ rfl
      simp [eG, c2, b1, w1, sG]
  rw [if_neg cG]
  have tG : andT (cm2 eqR (varC 2) (vD (cstC (.str (Str.ofString "go"))))) (cm2 eqR (varC 3) (vD (cstC (.int 2)))) [.bo (.da (.str (S x))), .ow (.da (.list W)), .ow (.da (.str (S x0))), .ow (.da (.int (ws.length : Nat))), .un, .un] = some false := by
    by_cases z : x0 = lit "go"
    · have z2 : ¬ (ws.length : Int) = 2 := fun q => cG ⟨z, by omega⟩
      rw [decide_eq_true z] at eG
      simp [eG, z2]
    · rw [decide_eq_false z] at eG
      simp [eG]
  refine seqE (ρ1 := [.bo (.da (.str (S x))), .ow (.da (.list W)), .ow (.da (.str (S x0))), .ow (.da (.int (ws.length : Nat))), .un, .un]) (by rw [ev_ifS, ev_qT, tG]; rfl) ?_
  -- leave, unwatch
  by_cases cL : (x0 = lit "leave" ∨ x0 = lit "unwatch") ∧ ws.length = 2
  · rw [if_pos cL]
    obtain ⟨c1, c2⟩ := cL
    rw [decide_eq_true c1] at eI
    have b1 := a1 (by omega)
    by_cases g1 : nmOk x1 = true
    rotate_left
    · rw [if_neg g1] at n1
      rw [if_neg g1]
      refine seqEx (c := "NoTale") (ρ1 := [.bo (.da (.str (S x))), .ow (.da (.list W)), .ow (.da (.str (S x0))), .ow (.da (.int (ws.length : Nat))), .un, .un]) ?_ rfl
      simp [eI, c2, b1, n1]
    rw [if_pos g1] at n1
    rw [if_pos g1]
    refine seqRt (x := .da (.tuple [.str (S x0), .str (S x1)])) (ρ1 := [.bo (.da (.str (S x))), .ow (.da (.list W)), .ow (.da (.str (S x0))), .ow (.da (.int (ws.length : Nat))), .un, .un]) ?_ rfl
    simp [eI, c2, b1, n1]
  rw [if_neg cL]
  have tL : andT (cm2 inSR (varC 2) (vD (tupC (consD (cstC (.str (Str.ofString "leave"))) (consD (cstC (.str (Str.ofString "unwatch"))) nilD))))) (cm2 eqR (varC 3) (vD (cstC (.int 2)))) [.bo (.da (.str (S x))), .ow (.da (.list W)), .ow (.da (.str (S x0))), .ow (.da (.int (ws.length : Nat))), .un, .un] = some false := by
    by_cases z : x0 = lit "leave" ∨ x0 = lit "unwatch"
    · have z2 : ¬ (ws.length : Int) = 2 := fun q => cL ⟨z, by omega⟩
      rw [decide_eq_true z] at eI
      simp [eI, z2]
    · rw [decide_eq_false z] at eI
      simp [eI]
  refine seqE (ρ1 := [.bo (.da (.str (S x))), .ow (.da (.list W)), .ow (.da (.str (S x0))), .ow (.da (.int (ws.length : Nat))), .un, .un]) (by rw [ev_ifS, ev_qT, tL]; rfl) ?_
  -- watch
  by_cases cW : x0 = lit "watch" ∧ 2 ≤ ws.length
  · rw [if_pos cW]
    obtain ⟨c1, c2⟩ := cW
    have hall := hw c1
    subst c1
    rw [decide_eq_true rfl] at eW
    have b1 := a1 c2
    have lc : ∀ ρ : En, ρ = [.bo (.da (.str (S x))), .ow (.da (.list W)), .ow (.da (.str (S (lit "watch")))), .ow (.da (.int (ws.length : Nat))), .un, .un] → lcL 5 yesT (dtV (callC f_name_of (consA (varC 5) nilA))) ρ (W.drop 2) = some (W.drop 2) := fun ρ hρ => by
      rw [hdrop]
      have key : ∀ vs : List (List Nat), (∀ v ∈ vs, OkT v ∧ nmOk v = true) → lcL 5 yesT (dtV (callC f_name_of (consA (varC 5) nilA))) ρ (vs.map fun w => PyData.str (S w)) = some (vs.map fun w => PyData.str (S w)) := by
        intro vs
        induction vs with
        | nil => intro _; rfl
        | cons v vs ih =>
          intro hv
          have i1 := ih fun u hu => hv u (by simp [hu])
          have f1 := f_name_of_eq (hv v (by simp)).1
          rw [if_pos (hv v (by simp)).2] at f1
          rw [List.map_cons, ev_lcL1, i1]
          subst hρ
          simp [f1]
      exact key _ fun v hv => ⟨ok v (List.mem_of_mem_drop hv), List.all_eq_true.mp hall v hv⟩
    have lc' := lc _ rfl
    have dl : (W.drop 2).length ≤ 100000 := by rw [List.length_drop, hl]; omega
    have tW : andT (cm2 eqR (varC 2) (vD (cstC (.str (Str.ofString "watch"))))) (cm2 geI (varC 3) (vD (cstC (.int 2)))) [.bo (.da (.str (S x))), .ow (.da (.list W)), .ow (.da (.str (S (lit "watch")))), .ow (.da (.int (ws.length : Nat))), .un, .un] = some true := by
      simp [eW, show (2 : Int) ≤ (ws.length : Int) by omega]
    have sl : lcC 5 (itF (frV (sliceC (varC 1) (intO (cstC (.int 2))) noO))) yesT (dtV (callC f_name_of (consA (varC 5) nilA))) [.bo (.da (.str (S x))), .ow (.da (.list W)), .ow (.da (.str (S (lit "watch")))), .ow (.da (.int (ws.length : Nat))), .un, .un] = some (.ok (.lst (W.drop 2))) := by
      have e : itF (frV (sliceC (varC 1) (intO (cstC (.int 2))) noO)) [.bo (.da (.str (S x))), .ow (.da (.list W)), .ow (.da (.str (S (lit "watch")))), .ow (.da (.int (ws.length : Nat))), .un, .un] = some (W.drop 2) := by simp [cut2]
      unfold lcC
      rw [e]
      show (if _ ∧ _ then _ else _) = _
      rw [if_pos ⟨dl, by simp⟩, lc']; rfl
    have eR : (W.drop 2) = ssD (ws.drop 2) := hdrop
    by_cases g1 : nmOk x1 = true
    rotate_left
    · rw [if_neg g1] at n1
      rw [if_neg (by simp [g1])]
      refine seqEx (c := "NoTale") (ρ1 := [.bo (.da (.str (S x))), .ow (.da (.list W)), .ow (.da (.str (S (lit "watch")))), .ow (.da (.int (ws.length : Nat))), .ow (.da (.list (W.drop 2))), .un]) ?_ rfl
      rw [ev_klS, ev_ifS, ev_qT, tW]
      simp only [Option.map_some]
      rw [ev_seqS, ev_setS, ev_fzE, ev_qE, sl]
      generalize W.drop 2 = V
      simp [b1, n1]
    rw [if_pos g1] at n1
    rw [if_pos (by simp [g1]; simpa using hall), ← eR]
    refine seqRt (x := .da (.tuple [.str "watch", .str (S x1), .tuple (W.drop 2)])) (ρ1 := [.bo (.da (.str (S x))), .ow (.da (.list W)), .ow (.da (.str (S (lit "watch")))), .ow (.da (.int (ws.length : Nat))), .ow (.da (.list (W.drop 2))), .un]) ?_ rfl
    rw [ev_klS, ev_ifS, ev_qT, tW]
    simp only [Option.map_some]
    rw [ev_seqS, ev_setS, ev_fzE, ev_qE, sl]
    generalize W.drop 2 = V
    simp [b1, n1, sW, tpR]
  rw [if_neg cW]
  have tW : andT (cm2 eqR (varC 2) (vD (cstC (.str (Str.ofString "watch"))))) (cm2 geI (varC 3) (vD (cstC (.int 2)))) [.bo (.da (.str (S x))), .ow (.da (.list W)), .ow (.da (.str (S x0))), .ow (.da (.int (ws.length : Nat))), .un, .un] = some false := by
    by_cases z : x0 = lit "watch"
    · have z2 : ¬ (2 : Int) ≤ (ws.length : Int) := fun q => cW ⟨z, by omega⟩
      rw [decide_eq_true z] at eW
      simp [eW, z2]
    · rw [decide_eq_false z] at eW
      simp [eW]
  refine seqE (ρ1 := [.bo (.da (.str (S x))), .un, .un, .un, .un, .un]) (by rw [ev_klS, ev_ifS, ev_qT, tW]; rfl) ?_
  rfl
end Sm

set_option exponentiation.threshold 20000
namespace Sm
open PySem L2 Cg
/-! ### a deed's own line read -/
theorem numL_head : ∀ (n : Nat), (TL.numL n).take 1 = [48] → n = 0 := by
  intro n
  induction n using Nat.strongRecOn with
  | _ n ih =>
    intro h
    by_cases hn : n < 10
    · rw [TL.numL_lt hn] at h
      simp at h
      exact h
    · rw [TL.numL_step (by omega)] at h
      have ne := TL.numL_ne (n / 10)
      have : ((TL.numL (n / 10)) ++ [48 + n % 10]).take 1 = (TL.numL (n / 10)).take 1 := by
        cases q : TL.numL (n / 10) with
        | nil => exact absurd q ne
        | cons a l => rfl
      rw [this] at h
      have := ih (n / 10) (by omega) h
      omega
theorem numL_45 (n : Nat) : (TL.numL n).take 1 ≠ [45] := fun h => by
  have m : 45 ∈ TL.numL n := List.mem_of_mem_take (i := 1) (by rw [h]; simp)
  exact TL.numL_free (s := 45) (by omega) m
theorem numC_fig (i : Int) : figL (numC i) = TL.numL i.natAbs := by
  unfold figL numC
  by_cases h : i < 0
  · rw [if_pos h]; rfl
  · rw [if_neg h, if_neg (numL_45 _)]
theorem numC_ok {i : Int} (h : Sm12 i) : numOk (numC i) = true := by
  unfold numOk
  rw [numC_fig]
  have l1 := TL.numL_len (n := i.natAbs) (k := 12) (by decide) h
  have l2 : 1 ≤ (TL.numL i.natAbs).length := List.length_pos_iff.mpr (TL.numL_ne _)
  rw [decide_eq_true ⟨l2, l1⟩]
  have al : (TL.numL i.natAbs).all isFig = true := List.all_eq_true.mpr fun c hc => decide_eq_true (TL.numL_digits _ c hc)
  rw [al]
  by_cases z : (TL.numL i.natAbs).take 1 = [48]
  · have z0 := numL_head _ z
    have i0 : i = 0 := by omega
    subst i0
    decide +kernel
  · rw [decide_eq_false z]; rfl
theorem numC_val {i : Int} : numV (numC i) = i := by
  unfold numV
  rw [numC_fig]
  by_cases h : i < 0
  · have e : numC i = 45 :: TL.numL i.natAbs := if_pos h
    rw [e, if_pos (by rfl), TL.numL_val]; omega
  · have e : numC i = TL.numL i.natAbs := if_neg h
    rw [e, if_neg (numL_45 _), TL.numL_val]; omega
theorem nmOk_good {n : Str} (h : GoodNm n) : nmOk (TL.tl n) = true := by
  unfold nmOk
  have e := TL.len_tl n
  rw [decide_eq_true ⟨by have := h.1; omega, by have := h.2.1; omega⟩, Bool.true_and, List.all_eq_true]
  exact fun c hc => decide_eq_true (h.2.2 c hc)
theorem line_tl {D : Dd} : TL.tl D.line = TL.joinL [32] (D.w.map TL.tl) := by
  unfold Dd.line
  rw [TL.join_eq, TL.tl_join, tl_sp]
theorem w_ne {D : Dd} : D.w ≠ [] := by cases D <;> simp [Dd.w]
theorem line_ws {D : Dd} (h : D.ok) : wsp (TL.tl D.line) = D.w.map TL.tl := by
  rw [line_tl]
  exact TL.spl_join (by simpa using w_ne) fun p hp => by
    obtain ⟨w, hw, rfl⟩ := List.mem_map.mp hp
    exact w_no32 h w hw
theorem ss_tl : ∀ ns : List Str, ssD (ns.map TL.tl) = nsD ns
  | [] => rfl
  | n :: ns => by
    show PyData.str (S (TL.tl n)) :: ssD (ns.map TL.tl) = .str n :: nsD ns
    rw [ss_tl ns, show S (TL.tl n) = n from SX.S_tl n]
theorem lit_ne : ∀ a ∈ (["about", "join", "turn", "go", "leave", "unwatch", "watch"] : List Str), ∀ b ∈ (["about", "join", "turn", "go", "leave", "unwatch", "watch"] : List Str), a ≠ b → lit a ≠ lit b := by decide +kernel
theorem go_mom {q : Rat} (h : (Dd.go q).ok) : momOf (TL.tl (numT q.num ++ "/" ++ numT q.den)) = some (q.num, (q.den : Int)) := by
  have e : TL.tl (numT q.num ++ "/" ++ numT q.den) = TL.joinL [47] [numC q.num, numC q.den] := by
    rw [TL.tl_append, TL.tl_append, tl_sl, tl_numT, tl_numT]
    show _ = numC q.num ++ ([47] ++ numC q.den)
    rw [List.append_assoc]
  have nf : ∀ i : Int, 47 ∉ numC i := fun i hc => by
    rcases numC_mem hc with z | z
    · cases z
    · omega
  unfold momOf psl
  rw [e, TL.spl_join (by simp) fun p hp => by simp at hp; rcases hp with rfl | rfl <;> exact nf _]
  show (if momOk (numC q.num) (numC q.den) = true then some (numV (numC q.num), numV (numC q.den)) else none) = _
  rw [numC_val, numC_val, if_pos]
  unfold momOk
  rw [numC_ok h.2.1, numC_ok (show Sm12 (q.den : Int) by have := h.2.2; unfold Sm12; omega), numC_val, numC_val]
  rw [decide_eq_true]
  · rfl
  · refine ⟨h.1, by have := q.den_nz; omega, ?_⟩
    have := q.reduced
    unfold Nat.Coprime at this
    unfold Int.gcd
    simpa using this
theorem rd_line {D : Dd} (h : D.ok) : rdD (wsp (TL.tl D.line)) = some D.d := by
  rw [line_ws h]
  have st : ∀ n : Str, S (TL.tl n) = n := SX.S_tl
  have ne : ∀ {a b : Str}, a ∈ (["about", "join", "turn", "go", "leave", "unwatch", "watch"] : List Str) → b ∈ (["about", "join", "turn", "go", "leave", "unwatch", "watch"] : List Str) → a ≠ b → ¬ TL.tl a = lit b := fun ha hb hn => lit_ne _ ha _ hb hn
  have d1 : ("join" : Str) ≠ "about" := by decide +kernel
  have d2 : ("turn" : Str) ≠ "about" := by decide +kernel
  have d3 : ("turn" : Str) ≠ "join" := by decide +kernel
  have d4 : ("go" : Str) ≠ "about" := by decide +kernel
  have d5 : ("go" : Str) ≠ "join" := by decide +kernel
  have d6 : ("go" : Str) ≠ "turn" := by decide +kernel
  have d7 : ("leave" : Str) ≠ "about" := by decide +kernel
  have d8 : ("leave" : Str) ≠ "join" := by decide +kernel
  have d9 : ("leave" : Str) ≠ "turn" := by decide +kernel
  have d10 : ("leave" : Str) ≠ "go" := by decide +kernel
  have d11 : ("unwatch" : Str) ≠ "about" := by decide +kernel
  have d12 : ("unwatch" : Str) ≠ "join" := by decide +kernel
  have d13 : ("unwatch" : Str) ≠ "turn" := by decide +kernel
  have d14 : ("unwatch" : Str) ≠ "go" := by decide +kernel
  have d15 : ("watch" : Str) ≠ "about" := by decide +kernel
  have d16 : ("watch" : Str) ≠ "join" := by decide +kernel
  have d17 : ("watch" : Str) ≠ "turn" := by decide +kernel
  have d18 : ("watch" : Str) ≠ "go" := by decide +kernel
  have d19 : ("watch" : Str) ≠ "leave" := by decide +kernel
  have d20 : ("watch" : Str) ≠ "unwatch" := by decide +kernel
  have d21 : ("unwatch" : Str) ≠ "leave" := by decide +kernel
  cases D with
  | jo n p q =>
    show rdD [TL.tl "join", TL.tl n, TL.tl (numT p), TL.tl (numT q)] = _
    rw [tl_numT, tl_numT]
    unfold rdD
    rw [if_neg (fun z => ne (by simp) (by simp) d1 z.1), if_pos ⟨rfl, rfl⟩]
    show (if (nmOk (TL.tl n) && numOk (numC p) && numOk (numC q)) = true then some (PyData.tuple [.str "join", .str (S (TL.tl n)), .int (numV (numC p)), .int (numV (numC q))]) else none) = _
    rw [nmOk_good h.1, numC_ok h.2.1, numC_ok h.2.2, numC_val, numC_val, st]; rfl
  | tu n p =>
    show rdD [TL.tl "turn", TL.tl n, TL.tl (numT p)] = _
    rw [tl_numT]
    unfold rdD
    rw [if_neg (fun z => ne (by simp) (by simp) d2 z.1), if_neg (fun z => ne (by simp) (by simp) d3 z.1), if_pos ⟨rfl, rfl⟩]
    show (if (nmOk (TL.tl n) && numOk (numC p)) = true then some (PyData.tuple [.str "turn", .str (S (TL.tl n)), .int (numV (numC p))]) else none) = _
    rw [nmOk_good h.1, numC_ok h.2, numC_val, st]; rfl
  | le n =>
    show rdD [TL.tl "leave", TL.tl n] = _
    unfold rdD
    rw [if_neg (fun z => ne (by simp) (by simp) d7 z.1), if_neg (fun z => ne (by simp) (by simp) d8 z.1), if_neg (fun z => ne (by simp) (by simp) d9 z.1), if_neg (fun z => ne (by simp) (by simp) d10 z.1), if_pos ⟨.inl rfl, rfl⟩]
    show (if nmOk (TL.tl n) = true then some (PyData.tuple [.str (S (TL.tl "leave")), .str (S (TL.tl n))]) else none) = _
    rw [nmOk_good h, st, st]; rfl
  | ab =>
    show rdD [TL.tl "about"] = _
    unfold rdD
    rw [if_pos ⟨rfl, rfl⟩]; rfl
  | un n =>
    show rdD [TL.tl "unwatch", TL.tl n] = _
    unfold rdD
    rw [if_neg (fun z => ne (by simp) (by simp) d11 z.1), if_neg (fun z => ne (by simp) (by simp) d12 z.1), if_neg (fun z => ne (by simp) (by simp) d13 z.1), if_neg (fun z => ne (by simp) (by simp) d14 z.1), if_pos ⟨.inr rfl, rfl⟩]
    show (if nmOk (TL.tl n) = true then some (PyData.tuple [.str (S (TL.tl "unwatch")), .str (S (TL.tl n))]) else none) = _
    rw [nmOk_good h, st, st]; rfl
  | go q =>
    have gm := go_mom h
    show rdD [TL.tl "go", TL.tl (numT q.num ++ "/" ++ numT q.den)] = _
    generalize TL.tl (numT q.num ++ "/" ++ numT q.den) = m at *
    unfold rdD
    rw [if_neg (fun z => ne (by simp) (by simp) d4 z.1), if_neg (fun z => ne (by simp) (by simp) d5 z.1), if_neg (fun z => ne (by simp) (by simp) d6 z.1), if_pos ⟨rfl, rfl⟩]
    show (momOf m).map _ = _
    rw [gm]; rfl
  | wa n ns =>
    show rdD (TL.tl "watch" :: TL.tl n :: ns.map TL.tl) = _
    have hall : (ns.map TL.tl).all nmOk = true := by
      rw [List.all_map, List.all_eq_true]
      exact fun m hm => nmOk_good (h.2.2 m hm)
    have et := ss_tl ns
    generalize ns.map TL.tl = L at *
    unfold rdD
    rw [if_neg (fun z => ne (by simp) (by simp) d15 z.1), if_neg (fun z => ne (by simp) (by simp) d16 z.1), if_neg (fun z => ne (by simp) (by simp) d17 z.1), if_neg (fun z => ne (by simp) (by simp) d18 z.1), if_neg (fun z => z.1.elim (ne (by simp) (by simp) d19) (ne (by simp) (by simp) d20)), if_pos ⟨rfl, by simp⟩]
    show (if (nmOk (TL.tl n) && L.all nmOk) = true then some (PyData.tuple [.str "watch", .str (S (TL.tl n)), .tuple (ssD L)]) else none) = _
    rw [nmOk_good h.1, hall, st, et]; rfl
theorem line_T {D : Dd} (h : D.ok) : OkT (TL.tl D.line) := ⟨by rw [← TL.len_tl]; have := line_len h; omega, fun c hc => Nat.lt_trans (line_lt h c hc) (by decide)⟩
theorem f_deed_of_line {D : Dd} (h : D.ok) : f_deed_of [.da (.str D.line)] = some (.ok (.da D.d) []) := by
  have e := f_deed_of_eq (line_T h) (fun hz => by
    rw [line_ws h] at hz ⊢
    cases D with
    | wa n ns =>
      show ((ns.map TL.tl)).all nmOk = true
      rw [List.all_map, List.all_eq_true]
      exact fun m hm => nmOk_good (h.2.2 m hm)
    | jo n p q => exact absurd (show TL.tl "join" = lit "watch" from hz) (by decide +kernel)
    | tu n p => exact absurd (show TL.tl "turn" = lit "watch" from hz) (by decide +kernel)
    | le n => exact absurd (show TL.tl "leave" = lit "watch" from hz) (by decide +kernel)
    | ab => exact absurd (show TL.tl "about" = lit "watch" from hz) (by decide +kernel)
    | un n => exact absurd (show TL.tl "unwatch" = lit "watch" from hz) (by decide +kernel)
    | go q => exact absurd (show TL.tl "go" = lit "watch" from hz) (by decide +kernel))
  rw [rd_line h, show S (TL.tl D.line) = D.line from SX.S_tl _] at e
  exact e
/-! ### a deed told against the deed that is due -/
def LitOk (w : Str) : Prop := PyData.strOk w = true
theorem shp_dd {D : Dd} (h : D.ok) : Shp 4 D.d := by
  have s1 : ∀ {w : Str}, GoodNm w → Shp 3 (.str w) := fun g => (shp_str g.ok).mono (by decide)
  have s2 : ∀ i : Int, Shp 3 (.int i) := fun i => (shp_int i).mono (by decide)
  have s3 : ∀ w ∈ (["about", "join", "turn", "go", "leave", "unwatch", "watch"] : List Str), PyData.strOk w = true := by decide +kernel
  have s4 : ∀ {w : Str}, w ∈ (["about", "join", "turn", "go", "leave", "unwatch", "watch"] : List Str) → Shp 3 (.str w) := fun hw => (shp_str (s3 _ hw)).mono (by decide)
  cases D with
  | jo n p q =>
    exact shp_tup fun d hd => by
      simp at hd
      rcases hd with rfl | rfl | rfl | rfl <;> first | exact s1 h.1 | exact s2 _ | exact s1 h | exact (shp_qD _).mono (by decide) | exact s4 (by simp)
  | tu n p =>
    exact shp_tup fun d hd => by
      simp at hd
      rcases hd with rfl | rfl | rfl <;> first | exact s1 h.1 | exact s2 _ | exact s1 h | exact (shp_qD _).mono (by decide) | exact s4 (by simp)
  | le n =>
    exact shp_tup fun d hd => by
      simp at hd
      rcases hd with rfl | rfl <;> first | exact s1 h.1 | exact s2 _ | exact s1 h | exact (shp_qD _).mono (by decide) | exact s4 (by simp)
  | ab => exact shp_tup fun d hd => by simp at hd; subst hd; exact s4 (by simp)
  | un n =>
    exact shp_tup fun d hd => by
      simp at hd
      rcases hd with rfl | rfl <;> first | exact s1 h.1 | exact s2 _ | exact s1 h | exact (shp_qD _).mono (by decide) | exact s4 (by simp)
  | go q =>
    exact shp_tup fun d hd => by
      simp at hd
      rcases hd with rfl | rfl <;> first | exact s1 h.1 | exact s2 _ | exact s1 h | exact (shp_qD _).mono (by decide) | exact s4 (by simp)
  | wa n ns =>
    refine shp_tup fun d hd => ?_
    simp at hd
    rcases hd with rfl | rfl | rfl
    · exact s4 (by simp)
    · exact s1 h.1
    · exact (shp_tup (n := 1) fun d hd => by
        obtain ⟨m, hm, rfl⟩ := List.mem_map.mp hd
        exact shp_str (h.2.2 m hm).ok).mono (by decide)
theorem f_deedalike_eq {D : Dd} (h : D.ok) : f_l_deedalike [.da D.d, .da D.d] = some (.ok (.da (.bool true)) []) := by
  have e := eqRD (shp_dd h) (by decide)
  have fr : ∀ (ds : List PyData) (n : Nat), ds.length = n → n ≤ 1000 → forR2 2 (cstC (.int 2)) (dtV (op1 lenV (varC 1))) w_l_deedalike_0 [.bo (.da (.tuple ds)), .bo (.da (.tuple ds)), .un] = forL 2 w_l_deedalike_0 (rng 2 (n - 2)) [.bo (.da (.tuple ds)), .bo (.da (.tuple ds)), .un] := fun ds n hn hb => by
    unfold forR2
    have e2 : dtV (op1 lenV (varC 1)) [.bo (.da (.tuple ds)), .bo (.da (.tuple ds)), .un] = some (.ok (.int (n : Nat))) := by simp [hn]
    rw [e2]
    show @ite _ _ (Classical.propDecidable _) _ _ = _
    rw [if_pos ⟨by decide, by decide, by omega, by omega⟩, show (((n : Nat) : Int) - 2).toNat = n - 2 by omega]
  unfold f_l_deedalike b_l_deedalike
  refine bodyF_go (by simp; rfl) (by rfl) ?_
  cases D with
  | jo n p q =>
    rw [show (Dd.jo n p q).d = .tuple [.str "join", .str n, .int p, .int q] from rfl] at e ⊢
    have f := fr [.str "join", .str n, .int p, .int q] 4 rfl (by decide)
    rw [show rng 2 (4 - 2) = [.int 2, .int 3] from rfl] at f
    (first | apply seqE | apply seqO); focus (simp (disch := first | assumption | omega) [decT, decF, e]; rfl)
    (first | apply seqE | apply seqO); focus (simp (disch := first | assumption | omega) [decT, decF, atI0]; rfl)
    (first | apply seqE | apply seqO); focus (simp (disch := first | assumption | omega) [decT, decF, atI0]; rfl)
    refine seqE (ρ1 := [.bo (.da (.tuple [.str "join", .str n, .int p, .int q])), .bo (.da (.tuple [.str "join", .str n, .int p, .int q])), .un]) ?_ ?_
    · rw [ev_klS, f]
      simp [ev_for1, w_l_deedalike_0, atI2, atI3]
    · simp [atI0]
  | tu n p =>
    rw [show (Dd.tu n p).d = .tuple [.str "turn", .str n, .int p] from rfl] at e ⊢
    have f := fr [.str "turn", .str n, .int p] 3 rfl (by decide)
    rw [show rng 2 (3 - 2) = [.int 2] from rfl] at f
    (first | apply seqE | apply seqO); focus (simp (disch := first | assumption | omega) [decT, decF, e]; rfl)
    (first | apply seqE | apply seqO); focus (simp (disch := first | assumption | omega) [decT, decF, atI0]; rfl)
    (first | apply seqE | apply seqO); focus (simp (disch := first | assumption | omega) [decT, decF, atI0]; rfl)
    refine seqE (ρ1 := [.bo (.da (.tuple [.str "turn", .str n, .int p])), .bo (.da (.tuple [.str "turn", .str n, .int p])), .un]) ?_ ?_
    · rw [ev_klS, f]
      simp [ev_for1, w_l_deedalike_0, atI2]
    · simp [atI0]
  | le n =>
    rw [show (Dd.le n).d = .tuple [.str "leave", .str n] from rfl] at e ⊢
    have f := fr [.str "leave", .str n] 2 rfl (by decide)
    rw [show rng 2 (2 - 2) = [] from rfl] at f
    (first | apply seqE | apply seqO); focus (simp (disch := first | assumption | omega) [decT, decF, e]; rfl)
    (first | apply seqE | apply seqO); focus (simp (disch := first | assumption | omega) [decT, decF, atI0]; rfl)
    (first | apply seqE | apply seqO); focus (simp (disch := first | assumption | omega) [decT, decF, atI0]; rfl)
    refine seqE (ρ1 := [.bo (.da (.tuple [.str "leave", .str n])), .bo (.da (.tuple [.str "leave", .str n])), .un]) ?_ ?_
    · rw [ev_klS, f]
      simp
    · simp [atI0]
  | un n =>
    rw [show (Dd.un n).d = .tuple [.str "unwatch", .str n] from rfl] at e ⊢
    have f := fr [.str "unwatch", .str n] 2 rfl (by decide)
    rw [show rng 2 (2 - 2) = [] from rfl] at f
    (first | apply seqE | apply seqO); focus (simp (disch := first | assumption | omega) [decT, decF, e]; rfl)
    (first | apply seqE | apply seqO); focus (simp (disch := first | assumption | omega) [decT, decF, atI0]; rfl)
    (first | apply seqE | apply seqO); focus (simp (disch := first | assumption | omega) [decT, decF, atI0]; rfl)
    refine seqE (ρ1 := [.bo (.da (.tuple [.str "unwatch", .str n])), .bo (.da (.tuple [.str "unwatch", .str n])), .un]) ?_ ?_
    · rw [ev_klS, f]
      simp
    · simp [atI0]
  | ab =>
    rw [show (Dd.ab).d = .tuple [.str "about"] from rfl] at e ⊢
    have f := fr [.str "about"] 1 rfl (by decide)
    rw [show rng 2 (1 - 2) = [] from rfl] at f
    (first | apply seqE | apply seqO); focus (simp (disch := first | assumption | omega) [decT, decF, e]; rfl)
    (first | apply seqE | apply seqO); focus (simp (disch := first | assumption | omega) [decT, decF, atI0]; rfl)
    (first | apply seqE | apply seqO); focus (simp (disch := first | assumption | omega) [decT, decF, atI0]; rfl)
    refine seqE (ρ1 := [.bo (.da (.tuple [.str "about"])), .bo (.da (.tuple [.str "about"])), .un]) ?_ ?_
    · rw [ev_klS, f]
      simp
    · simp [atI0]
  | go q =>
    rw [show (Dd.go q).d = .tuple [.str "go", qD q] from rfl] at e ⊢
    (first | apply seqE | apply seqO); focus (simp (disch := first | assumption | omega) [decT, decF, e]; rfl)
    simp [atI0, atI1]
  | wa n ns =>
    rw [show (Dd.wa n ns).d = .tuple [.str "watch", .str n, .tuple (nsD ns)] from rfl] at e ⊢
    generalize nsD ns = N at *
    (first | apply seqE | apply seqO); focus (simp (disch := first | assumption | omega) [decT, decF, e]; rfl)
    (first | apply seqE | apply seqO); focus (simp (disch := first | assumption | omega) [decT, decF, atI0]; rfl)
    simp [atI0, atI2]
end Sm

set_option exponentiation.threshold 20000
namespace Sm
open PySem L2 Cg
theorem law_k52_true (ns : List Int) (hl : ns.length ≤ 63) : f_law_k52 [.scr ns] = some (.ok (.da (.bool true)) []) := by
  obtain ⟨D, e, ok⟩ := f_anydeed_eq (cell ns 0) (cell ns 1)
  have e1 := f_line_of_eq ok
  have e2 := f_l_line_eq ok
  have e3 := f_deed_of_line ok
  have e4 := f_deedalike_eq ok
  have lk := line_ok ok
  obtain ⟨ds, hd⟩ : ∃ ds, D.d = .tuple ds := by cases D <;> exact ⟨_, rfl⟩
  rw [hd] at e e1 e2 e3 e4
  generalize D.line = z at e1 e2 e3 lk
  have e5 : eqR (.da (.str z)) (.da (.str z)) = some true := by rw [eqStr lk lk]; simp
  unfold f_law_k52 b_law_k52
  refine bodyF_go (by simp; rfl) (by rfl) ?_
  (first | apply seqE | apply seqO); focus (simp (disch := first | assumption | omega) [decT, decF, f_cellI, show ((0 : Int).toNat) = 0 from rfl, show ((1 : Int).toNat) = 1 from rfl, e]; rfl)
  (first | apply seqE | apply seqO); focus (simp (disch := first | assumption | omega) [decT, decF, e2]; rfl)
  (first | apply seqE | apply seqO); focus (simp (disch := first | assumption | omega) [decT, decF, e3]; rfl)
  simp [e1, e4, e5]
end Sm

namespace Lw
open PySem L2 Cg Sm

structure Tx (K : PySem.W.Frag) (mg : Str → Option Value) : Prop where
  d__law_digits : ∃ fd, FunD K "_law_digits" "_law_digits" (defArgs (top 19)) (defBody (top 19)) (defScope (top 19)) [] [] (He.ga K "_law_digits") fd
  d__law_names : ∃ fd, FunD K "_law_names" "_law_names" (defArgs (top 23)) (defBody (top 23)) (defScope (top 23)) [] [] (He.ga K "_law_names") fd
  d__law_low : ∃ fd, FunD K "_law_low" "_law_low" (defArgs (top 21)) (defBody (top 21)) (defScope (top 21)) [] [] (He.ga K "_law_low") fd
  d__law_anydeed : ∃ fd, FunD K "_law_anydeed" "_law_anydeed" (defArgs (top 25)) (defBody (top 25)) (defScope (top 25)) [] [] (He.ga K "_law_anydeed") fd
  d__law_line : ∃ fd, FunD K "_law_line" "_law_line" (defArgs (top 24)) (defBody (top 24)) (defScope (top 24)) [] [] (He.ga K "_law_line") fd
  d_good_name : ∃ fd, FunD K "good_name" "good_name" (defArgs (top 8)) (defBody (top 8)) (defScope (top 8)) [] [] (He.ga K "good_name") fd
  d_name_of : ∃ fd, FunD K "name_of" "name_of" (defArgs (top 15)) (defBody (top 15)) (defScope (top 15)) [] [] (He.ga K "name_of") fd
  d_whole_of : ∃ fd, FunD K "whole_of" "whole_of" (defArgs (top 13)) (defBody (top 13)) (defScope (top 13)) [] [] (He.ga K "whole_of") fd
  d_shared : ∃ fd, FunD K "shared" "shared" (defArgs (top 4)) (defBody (top 4)) (defScope (top 4)) [] [] (He.ga K "shared") fd
  d_moment_of : ∃ fd, FunD K "moment_of" "moment_of" (defArgs (top 14)) (defBody (top 14)) (defScope (top 14)) [] [] (He.ga K "moment_of") fd
  d_deed_of : ∃ fd, FunD K "deed_of" "deed_of" (defArgs (top 16)) (defBody (top 16)) (defScope (top 16)) [] [] (He.ga K "deed_of") fd
  d__law_cell : ∃ fd, FunD K "_law_cell" "_law_cell" (defArgs (top 18)) (defBody (top 18)) (defScope (top 18)) [] [] (He.ga K "_law_cell") fd
  d__law_whole : ∃ fd, FunD K "_law_whole" "_law_whole" (defArgs (top 20)) (defBody (top 20)) (defScope (top 20)) [] [] (He.ga K "_law_whole") fd
  d__law_part : ∃ fd, FunD K "_law_part" "_law_part" (defArgs (top 22)) (defBody (top 22)) (defScope (top 22)) [] [] (He.ga K "_law_part") fd
  d__law_deedalike : ∃ fd, FunD K "_law_deedalike" "_law_deedalike" (defArgs (top 26)) (defBody (top 26)) (defScope (top 26)) [] [] (He.ga K "_law_deedalike") fd
  d_line_of : ∃ fd, FunD K "line_of" "line_of" (defArgs (top 12)) (defBody (top 12)) (defScope (top 12)) [] [] (He.ga K "line_of") fd
  d_law : ∃ fd, FunD K "law" "law" (defArgs (top 27)) (defBody (top 27)) (defScope (top 27)) [] [] (He.ga K "law") fd
  c_FIGURES : ∃ t, mg "FIGURES" = some (.str "0123456789" t)
  c_LONGEST_names : ∃ t, mg "LONGEST_names" = some (.int 8 t)
  c_LONGEST_tale : ∃ t, mg "LONGEST_tale" = some (.int 12 t)
  c_SIGNS : ∃ t, mg "SIGNS" = some (.str "abcdefghijklmnopqrstuvwxyz0123456789" t)
  g_NoTale : mg "NoTale" = some (.ref (He.ga K "NoTale"))
  g__law_anydeed : mg "_law_anydeed" = some (.ref (He.ga K "_law_anydeed"))
  g__law_cell : mg "_law_cell" = some (.ref (He.ga K "_law_cell"))
  g__law_deedalike : mg "_law_deedalike" = some (.ref (He.ga K "_law_deedalike"))
  g__law_digits : mg "_law_digits" = some (.ref (He.ga K "_law_digits"))
  g__law_line : mg "_law_line" = some (.ref (He.ga K "_law_line"))
  g__law_low : mg "_law_low" = some (.ref (He.ga K "_law_low"))
  g__law_names : mg "_law_names" = some (.ref (He.ga K "_law_names"))
  g__law_part : mg "_law_part" = some (.ref (He.ga K "_law_part"))
  g__law_whole : mg "_law_whole" = some (.ref (He.ga K "_law_whole"))
  g_deed_of : mg "deed_of" = some (.ref (He.ga K "deed_of"))
  g_good_name : mg "good_name" = some (.ref (He.ga K "good_name"))
  g_line_of : mg "line_of" = some (.ref (He.ga K "line_of"))
  g_moment_of : mg "moment_of" = some (.ref (He.ga K "moment_of"))
  g_name_of : mg "name_of" = some (.ref (He.ga K "name_of"))
  g_shared : mg "shared" = some (.ref (He.ga K "shared"))
  g_whole_of : mg "whole_of" = some (.ref (He.ga K "whole_of"))
  k__law_anydeed : PySem.W.keepIn K (.ref (He.ga K "_law_anydeed")) = true
  k__law_cell : PySem.W.keepIn K (.ref (He.ga K "_law_cell")) = true
  k__law_deedalike : PySem.W.keepIn K (.ref (He.ga K "_law_deedalike")) = true
  k__law_digits : PySem.W.keepIn K (.ref (He.ga K "_law_digits")) = true
  k__law_line : PySem.W.keepIn K (.ref (He.ga K "_law_line")) = true
  k__law_low : PySem.W.keepIn K (.ref (He.ga K "_law_low")) = true
  k__law_names : PySem.W.keepIn K (.ref (He.ga K "_law_names")) = true
  k__law_part : PySem.W.keepIn K (.ref (He.ga K "_law_part")) = true
  k__law_whole : PySem.W.keepIn K (.ref (He.ga K "_law_whole")) = true
  k_deed_of : PySem.W.keepIn K (.ref (He.ga K "deed_of")) = true
  k_good_name : PySem.W.keepIn K (.ref (He.ga K "good_name")) = true
  k_line_of : PySem.W.keepIn K (.ref (He.ga K "line_of")) = true
  k_moment_of : PySem.W.keepIn K (.ref (He.ga K "moment_of")) = true
  k_name_of : PySem.W.keepIn K (.ref (He.ga K "name_of")) = true
  k_shared : PySem.W.keepIn K (.ref (He.ga K "shared")) = true
  k_whole_of : PySem.W.keepIn K (.ref (He.ga K "whole_of")) = true
  x_NoTale : PySem.W.excIn K (He.ga K "NoTale") He.veBase "ValueError.__new__" = true ∧ PySem.W.keepIn K (.ref (He.ga K "NoTale")) = true ∧ PySem.W.subIn K (.ref (He.ga K "NoTale")) (.type "BaseException") = some true ∧ PySem.W.typeIn K (.ref (He.ga K "NoTale")) = some (.type "type")
  z_abs : mg "abs" = none
  z_bool : mg "bool" = none
  z_int : mg "int" = none
  z_isinstance : mg "isinstance" = none
  z_len : mg "len" = none
  z_list : mg "list" = none
  z_range : mg "range" = none
  z_str : mg "str" = none
  z_tuple : mg "tuple" = none
section
variable {P : Program} {w : World} {K : PySem.W.Frag} {mg : Str → Option Value} {base : Heap}
theorem q__law_digits (T : Tx K mg) : Fq P w K mg base (He.ga K "_law_digits") 1 [] f_l_digits := by
  obtain ⟨fd, F⟩ := T.d__law_digits
  have S : FnScope ["_law_cell_here", "_law_sizes", "_law_out", "_law_rest", "_law_size", "_law_one", "_law_k", "_law_two"] ["_law_cell_here", "_law_sizes"] (defScope (top 19)) := ⟨rfl, rfl, rfl, by decide +kernel, rfl, by decide +kernel, by decide +kernel⟩
  refine fq_of (k := 0) F S (fun _ _ _ _ _ _ us hl => match us, hl with | [_, _], _ => rfl) fun cdv A outer s0 H E hr => ?_
  have nd := S.nd
  have tk := takesD (P := P) (w := w) (K := K) (mg := mg) (base := base) (N := ["_law_cell_here", "_law_sizes", "_law_out", "_law_rest", "_law_size", "_law_one", "_law_k", "_law_two"]) (qual := "_law_digits") (scope := defScope (top 19)) (f := He.ga K "_law_digits") (cdv := cdv) (A := A) (outer := outer) (s := s0) (H := H) (E := E)
  unfold b_l_digits
  exact (sss_cons (ss_set (i := 2) nd rfl (.inl rfl) (se_v (sv_lst sds_nil)))
    (sss_cons (ss_kl [3, 4] (ss_if (te_q (t_ge (W := WD E) (sa_var (pv 0)) (sa_v (v_pow (sa_v (sv_d sd_int)) (sa_v (sv_d sd_int))))))
    (sss_cons (ss_set (i := 3) nd rfl (.inl rfl) (se_fz (se_v (v_sub (sa_var (pv 0)) (sa_v (v_pow (sa_v (sv_d sd_int)) (sa_v (sv_d sd_int))))))))
    (sss_cons (ss_kl [3, 4] (ss_forD (i := 4) passD rfl nd rfl (.inl rfl) (sd_a (sa_var (pv 1))) (show SSs _ _ _ _ w_l_digits_0 from by unfold w_l_digits_0; exact (sss_kl [4] (sss_cons (ss_expr (se_append (sp_var (pv 2)) (sd_v (v_mod (sa_var (pv 3)) (sa_var (pv 4))))))
    (sss_one (ss_set (i := 3) nd rfl (.inl rfl) (se_fz (se_v (v_div (sa_var (pv 3)) (sa_var (pv 4))))))))))))
    (sss_one (ss_ret (se_mv (pv 2))))))
    sss_nil))
    (sss_cons (ss_set (i := 5) nd rfl (.inl rfl) (se_fz (se_v (v_mod (sa_var (pv 0)) (sa_v (sv_d sd_int))))))
    (sss_cons (ss_kl [5, 6, 7] (ss_forR (i := 6) T.z_range passD rfl nd rfl (.inl rfl) (sd_v (v_len T.z_len (sa_var (pv 1)))) (show SSs _ _ _ _ w_l_digits_1 from by unfold w_l_digits_1; exact (sss_kl [6, 7] (sss_cons (ss_set (i := 5) nd rfl (.inl rfl) (se_fz (se_v (v_mod (sa_v (sv_add (sa_v (sv_mul (sa_var (pv 5)) (sa_v (sv_d sd_int)))) (sa_v (sv_mul (sa_v (sv_d sd_int)) (sa_v (sv_add (sa_var (pv 6)) (sa_v (sv_d sd_int)))))))) (sa_v (sv_d sd_int))))))
    (sss_cons (ss_set (i := 7) nd rfl (.inl rfl) (se_fz (se_v (v_mod (sa_v (sv_add (sa_v (sv_add (sa_v (sv_mul (sa_var (pv 5)) (sa_var (pv 5)))) (sa_v (sv_mul (sa_v (sv_d sd_int)) (sa_var (pv 5)))))) (sa_var (pv 6)))) (sa_v (sv_d sd_int))))))
    (sss_one (ss_expr (se_append (sp_var (pv 2)) (sd_v (v_mod (sa_v (v_div (sa_var (pv 7)) (sa_v (sv_d sd_int)))) (sa_sub hr (sa_var (pv 1)) (sd_a (sa_var (pv 6)))))))))))))))
    (sss_one (ss_ret (se_mv (pv 2))))))))
theorem q__law_names (T : Tx K mg) : Fq P w K mg base (He.ga K "_law_names") 2 [] f_l_names := by
  obtain ⟨fd, F⟩ := T.d__law_names
  have S : FnScope ["_law_cell_here", "_law_many", "_law_signs", "_law_row", "_law_some", "_law_k", "_law_body", "_law_at", "_law_out"] ["_law_cell_here", "_law_many"] (defScope (top 23)) := ⟨rfl, rfl, rfl, by decide +kernel, rfl, by decide +kernel, by decide +kernel⟩
  refine fq_of (k := 1) F S (fun _ _ _ _ _ _ us hl => match us, hl with | [_, _], _ => rfl) fun cdv A outer s0 H E hr => ?_
  have nd := S.nd
  have tk := takesD (P := P) (w := w) (K := K) (mg := mg) (base := base) (N := ["_law_cell_here", "_law_many", "_law_signs", "_law_row", "_law_some", "_law_k", "_law_body", "_law_at", "_law_out"]) (qual := "_law_names") (scope := defScope (top 23)) (f := He.ga K "_law_names") (cdv := cdv) (A := A) (outer := outer) (s := s0) (H := H) (E := E)
  unfold b_l_names
  exact (sss_cons (ss_set (i := 2) nd rfl (by first | exact .inl rfl | exact .inr rfl) (se_fz (se_v (sv_d sd_str))))
    (sss_cons (ss_set (i := 3) nd rfl (by first | exact .inl rfl | exact .inr rfl) (se_fz (se_v (sv_call (q__law_digits T) T.g__law_digits T.k__law_digits hr tk (sas_cons (sa_var (pv 0)) (sas_cons (sa_v (sv_fr (sv_lst (sds_cons sd_int (sds_cons sd_int (sds_cons sd_int (sds_cons sd_int (sds_cons sd_int (sds_cons sd_int (sds_cons sd_int (sds_cons sd_int (sds_cons sd_int (sds_cons sd_int (sds_cons sd_int (sds_cons sd_int sds_nil))))))))))))))) sas_nil))))))
    (sss_cons (ss_kl [4, 5] (ss_if (te_q (st_w (sw_and (st_eq (W := WD E) hr (sa_sub hr (sa_var (pv 3)) sd_int) (sa_v (sv_d sd_int))) (sw_and1 (t_le (W := WD E) (sa_var (pv 1)) (sa_v (sv_d sd_int)))))))
    (sss_cons (ss_set (i := 4) nd rfl (by first | exact .inl rfl | exact .inr rfl) (se_fz (se_v (sv_lst (sds_cons sd_str (sds_cons sd_str (sds_cons sd_str (sds_cons sd_str (sds_cons sd_str (sds_cons sd_str (sds_cons sd_str (sds_cons sd_str (sds_cons sd_str (sds_cons sd_str (sds_cons sd_str (sds_cons sd_str sds_nil))))))))))))))))
    (sss_one (ss_ret (se_v (sv_lc (i := 5) rfl nd rfl (si_range (W := WD E) T.z_range (sd_a (sa_var (pv 1)))) (blkOk_by (N := ["_law_cell_here", "_law_many", "_law_signs", "_law_row", "_law_some", "_law_k", "_law_body", "_law_at", "_law_out"]) (sc := defScope (top 23)) (by decide +kernel)) (fun _ _ _ _ _ => pg_name (i := 5) nd rfl (Or.inl rfl)) (fun _ _ _ _ _ => sts_nil) (fun _ _ _ _ _ => (sd_a (sa_sub hr (sa_var (pv 4)) (sd_v (v_mod (sa_v (sv_add (sa_sub hr (sa_var (pv 3)) sd_int) (sa_v (sv_mul (sa_v (sv_d sd_int)) (sa_var (pv 5)))))) (sa_v (sv_d sd_int))))))))))))
    sss_nil))
    (sss_cons (ss_setLc (i := 7) (m := 6) rfl nd rfl rfl (si_a (W := WD E) (sa_v (sv_fr (sv_slice (sa_var (pv 3)) (so_some (W := WD E) sd_int) (so_some (W := WD E) sd_int))))) (blkOk_by (N := ["_law_cell_here", "_law_many", "_law_signs", "_law_row", "_law_some", "_law_k", "_law_body", "_law_at", "_law_out"]) (sc := defScope (top 23)) (by decide +kernel)) (fun _ _ _ _ _ => pg_name (i := 7) nd rfl (Or.inl rfl)) (fun _ _ _ _ _ => sts_nil) (fun _ _ _ _ _ => (sd_a (sa_sub hr (sa_var (pv 2)) (sd_a (sa_var (pv 7)))))))
    (sss_cons (ss_kl [7] (ss_if (te_q (st_eq (W := WD E) hr (sa_sub hr (sa_var (pv 3)) sd_int) (sa_v (sv_d sd_int))))
    (sss_one (ss_set (i := 6) nd rfl (.inl rfl) (se_v (sv_slice (sa_var (pv 6)) so_none (so_some (W := WD E) (sd_v (sv_add (sa_sub hr (sa_var (pv 3)) sd_int) (sa_v (sv_d sd_int)))))))))
    sss_nil))
    (sss_cons (ss_set (i := 7) nd rfl (.inl rfl) (se_fz (se_v (v_mod (sa_sub hr (sa_var (pv 3)) sd_int) (sa_v (v_len T.z_len (sa_var (pv 6))))))))
    (sss_cons (ss_set (i := 8) nd rfl (.inl rfl) (se_v (sv_lst sds_nil)))
    (sss_cons (ss_kl [2, 3, 5, 6, 7] (ss_forR (i := 5) T.z_range passD rfl nd rfl (.inl rfl) (sd_a (sa_var (pv 1))) (show SSs _ _ _ _ w_l_names_0 from by unfold w_l_names_0; exact (sss_kl [5] (sss_cons (ss_lput (sp_var (pv 6)) (sd_a (sa_var (pv 7))) (sd_a (sa_sub hr (sa_var (pv 2)) (sd_v (v_mod (sa_v (sv_add (sa_sub hr (sa_var (pv 3)) sd_int) (sa_v (sv_mul (sa_v (sv_d sd_int)) (sa_var (pv 5)))))) (sa_v (sv_d sd_int)))))))
    (sss_one (ss_expr (se_append (sp_var (pv 8)) (sd_v (sv_join sd_str (sa_var (pv 6))))))))))))
    (sss_one (ss_ret (se_mv (pv 8))))))))))))
theorem q__law_low (T : Tx K mg) : Fq P w K mg base (He.ga K "_law_low") 1 [] f_l_low := by
  obtain ⟨fd, F⟩ := T.d__law_low
  have S : FnScope ["_law_top", "_law_bottom", "_law_one", "_law_two"] ["_law_top", "_law_bottom"] (defScope (top 21)) := ⟨rfl, rfl, rfl, by decide +kernel, rfl, by decide +kernel, by decide +kernel⟩
  refine fq_of (k := 0) F S (fun _ _ _ _ _ _ us hl => match us, hl with | [_, _], _ => rfl) fun cdv A outer s0 H E hr => ?_
  have nd := S.nd
  have tk := takesD (P := P) (w := w) (K := K) (mg := mg) (base := base) (N := ["_law_top", "_law_bottom", "_law_one", "_law_two"]) (qual := "_law_low") (scope := defScope (top 21)) (f := He.ga K "_law_low") (cdv := cdv) (A := A) (outer := outer) (s := s0) (H := H) (E := E)
  unfold b_l_low
  exact (sss_cons (ss_set (i := 2) nd rfl (.inl rfl) (se_fz (se_v (sv_abs T.z_abs (sa_var (pv 0))))))
    (sss_cons (ss_set (i := 3) nd rfl (.inl rfl) (se_fz (se_mv (pv 1))))
    (sss_cons (ss_kl [3] (ss_while passD (st_ne (W := WD E) hr (sa_var (pv 3)) (sa_v (sv_d sd_int))) (show SSs _ _ _ _ w_l_low_0 from by unfold w_l_low_0; exact (sss_one (ss_par (i := 2) (j := 3) rfl nd rfl rfl (sds_cons (sd_a (sa_var (pv 3))) (sds_cons (sd_v (v_mod (sa_var (pv 2)) (sa_var (pv 3)))) sds_nil)))))))
    (sss_one (ss_ret (se_v (sv_d (sd_tup (sds_cons (sd_v (v_div (sa_var (pv 0)) (sa_var (pv 2)))) (sds_cons (sd_v (v_div (sa_var (pv 1)) (sa_var (pv 2)))) sds_nil))))))))))
theorem q__law_anydeed (T : Tx K mg) : Fq P w K mg base (He.ga K "_law_anydeed") 3 [] f_l_anydeed := by
  obtain ⟨fd, F⟩ := T.d__law_anydeed
  have S : FnScope ["_law_cell_here", "_law_name_cell", "_law_row", "_law_names_here", "_law_numbers"] ["_law_cell_here", "_law_name_cell"] (defScope (top 25)) := ⟨rfl, rfl, rfl, by decide +kernel, rfl, by decide +kernel, by decide +kernel⟩
  refine fq_of (k := 2) F S (fun _ _ _ _ _ _ us hl => match us, hl with | [_, _], _ => rfl) fun cdv A outer s0 H E hr => ?_
  have nd := S.nd
  have tk := takesD (P := P) (w := w) (K := K) (mg := mg) (base := base) (N := ["_law_cell_here", "_law_name_cell", "_law_row", "_law_names_here", "_law_numbers"]) (qual := "_law_anydeed") (scope := defScope (top 25)) (f := He.ga K "_law_anydeed") (cdv := cdv) (A := A) (outer := outer) (s := s0) (H := H) (E := E)
  unfold b_l_anydeed
  exact (sss_cons (ss_set (i := 2) nd rfl (.inl rfl) (se_fz (se_v (sv_call (q__law_digits T) T.g__law_digits T.k__law_digits hr tk (sas_cons (sa_var (pv 0)) (sas_cons (sa_v (sv_fr (sv_lst (sds_cons sd_int (sds_cons (sd_v (v_sub (sa_v (sv_mul (sa_v (sv_d sd_int)) (sa_v (v_pow (sa_v (sv_d sd_int)) (sa_v (sv_d sd_int)))))) (sa_v (sv_d sd_int)))) (sds_cons (sd_v (v_sub (sa_v (sv_mul (sa_v (sv_d sd_int)) (sa_v (v_pow (sa_v (sv_d sd_int)) (sa_v (sv_d sd_int)))))) (sa_v (sv_d sd_int)))) (sds_cons (sd_v (v_sub (sa_v (v_pow (sa_v (sv_d sd_int)) (sa_v (sv_d sd_int)))) (sa_v (sv_d sd_int)))) (sds_cons sd_int (sds_cons sd_int sds_nil))))))))) sas_nil))))))
    (sss_cons (ss_set (i := 3) nd rfl (.inl rfl) (se_fz (se_v (sv_call (q__law_names T) T.g__law_names T.k__law_names hr tk (sas_cons (sa_var (pv 1)) (sas_cons (sa_v (sv_d sd_int)) sas_nil))))))
    (sss_cons (ss_set (i := 4) nd rfl (.inl rfl) (se_fz (se_v (sv_lst (sds_cons (sd_v (sv_add (sa_v (v_sub (sa_sub hr (sa_var (pv 2)) sd_int) (sa_v (v_pow (sa_v (sv_d sd_int)) (sa_v (sv_d sd_int)))))) (sa_v (sv_d sd_int)))) (sds_cons (sd_v (sv_add (sa_v (v_sub (sa_sub hr (sa_var (pv 2)) sd_int) (sa_v (v_pow (sa_v (sv_d sd_int)) (sa_v (sv_d sd_int)))))) (sa_v (sv_d sd_int)))) sds_nil))))))
    (sss_cons (ss_if (te_q (st_lt (W := WD E) (sa_sub hr (sa_var (pv 2)) sd_int) (sa_v (sv_d sd_int))))
    (sss_one (ss_set (i := 4) nd rfl (.inl rfl) (se_fz (se_v (sv_lst (sds_cons (sd_v (v_sub (sa_v (v_mod (sa_sub hr (sa_var (pv 2)) sd_int) (sa_v (sv_d sd_int)))) (sa_v (sv_d sd_int)))) (sds_cons (sd_v (v_sub (sa_v (v_mod (sa_sub hr (sa_var (pv 2)) sd_int) (sa_v (sv_d sd_int)))) (sa_v (sv_d sd_int)))) sds_nil)))))))
    sss_nil)
    (sss_cons (ss_if (te_q (st_eq (W := WD E) hr (sa_sub hr (sa_var (pv 2)) sd_int) (sa_v (sv_d sd_int))))
    (sss_one (ss_set (i := 4) nd rfl (.inl rfl) (se_fz (se_v (sv_lst (sds_cons (sd_v (v_sub (sa_v (v_mod (sa_sub hr (sa_var (pv 2)) sd_int) (sa_v (sv_d sd_int)))) (sa_v (sv_d sd_int)))) (sds_cons (sd_v (v_sub (sa_v (v_mod (sa_sub hr (sa_var (pv 2)) sd_int) (sa_v (sv_d sd_int)))) (sa_v (sv_d sd_int)))) sds_nil)))))))
    sss_nil)
    (sss_cons (ss_if (te_q (st_lt (W := WD E) (sa_sub hr (sa_var (pv 2)) sd_int) (sa_v (sv_d sd_int))))
    (sss_one (ss_ret (se_v (sv_d (sd_tup (sds_cons sd_str (sds_cons (sd_a (sa_sub hr (sa_var (pv 3)) sd_int)) (sds_cons (sd_a (sa_sub hr (sa_var (pv 4)) sd_int)) (sds_cons (sd_a (sa_sub hr (sa_var (pv 4)) sd_int)) sds_nil)))))))))
    sss_nil)
    (sss_cons (ss_if (te_q (st_eq (W := WD E) hr (sa_sub hr (sa_var (pv 2)) sd_int) (sa_v (sv_d sd_int))))
    (sss_one (ss_ret (se_v (sv_d (sd_tup (sds_cons sd_str (sds_cons (sd_a (sa_sub hr (sa_var (pv 3)) (sd_a (sa_sub hr (sa_var (pv 2)) sd_int)))) (sds_cons (sd_a (sa_sub hr (sa_var (pv 4)) sd_int)) sds_nil))))))))
    sss_nil)
    (sss_cons (ss_if (te_q (st_eq (W := WD E) hr (sa_sub hr (sa_var (pv 2)) sd_int) (sa_v (sv_d sd_int))))
    (sss_one (ss_ret (se_v (sv_d (sd_tup (sds_cons sd_str (sds_cons (sd_a (sa_sub hr (sa_var (pv 3)) (sd_a (sa_sub hr (sa_var (pv 2)) sd_int)))) sds_nil)))))))
    sss_nil)
    (sss_cons (ss_if (te_q (st_eq (W := WD E) hr (sa_sub hr (sa_var (pv 2)) sd_int) (sa_v (sv_d sd_int))))
    (sss_one (ss_ret (se_v (sv_d (sd_tup (sds_cons sd_str sds_nil))))))
    sss_nil)
    (sss_cons (ss_if (te_q (st_eq (W := WD E) hr (sa_sub hr (sa_var (pv 2)) sd_int) (sa_v (sv_d sd_int))))
    (sss_one (ss_ret (se_v (sv_d (sd_tup (sds_cons sd_str (sds_cons (sd_a (sa_sub hr (sa_var (pv 3)) sd_int)) (sds_cons (sd_v (sv_tuple T.z_tuple (sa_v (sv_fr (sv_slice (sa_var (pv 3)) (so_some (W := WD E) sd_int) (so_some (W := WD E) (sd_v (sv_add (sa_v (sv_d sd_int)) (sa_sub hr (sa_var (pv 2)) sd_int))))))))) sds_nil))))))))
    sss_nil)
    (sss_cons (ss_kl [3] (ss_if (te_q (st_eq (W := WD E) hr (sa_sub hr (sa_var (pv 2)) sd_int) (sa_v (sv_d sd_int))))
    (sss_one (ss_ret (se_v (sv_d (sd_tup (sds_cons sd_str (sds_cons (sd_a (sa_sub hr (sa_var (pv 3)) (sd_a (sa_sub hr (sa_var (pv 2)) sd_int)))) sds_nil)))))))
    sss_nil))
    (sss_one (ss_ret (se_v (sv_d (sd_tup (sds_cons sd_str (sds_cons (sd_v (sv_call (q__law_low T) T.g__law_low T.k__law_low hr tk (sas_cons (sa_v (sv_abs T.z_abs (sa_sub hr (sa_var (pv 4)) sd_int))) (sas_cons (sa_v (sv_add (sa_v (sv_d sd_int)) (sa_v (v_mod (sa_sub hr (sa_var (pv 2)) sd_int) (sa_sub hr (sa_v (sv_fr (sv_lst (sds_cons sd_int (sds_cons sd_int (sds_cons sd_int (sds_cons sd_int (sds_cons (sd_v (v_sub (sa_v (v_pow (sa_v (sv_d sd_int)) (sa_v (sv_d sd_int)))) (sa_v (sv_d sd_int)))) sds_nil)))))))) (sd_a (sa_sub hr (sa_var (pv 2)) sd_int))))))) sas_nil)))) sds_nil))))))))))))))))))
theorem q__law_line (T : Tx K mg) : Fq P w K mg base (He.ga K "_law_line") 1 [] f_l_line := by
  obtain ⟨fd, F⟩ := T.d__law_line
  have S : FnScope ["_law_deed", "_law_line_here", "_law_name", "_law_k"] ["_law_deed"] (defScope (top 24)) := ⟨rfl, rfl, rfl, by decide +kernel, rfl, by decide +kernel, by decide +kernel⟩
  refine fq_of (k := 0) F S (fun _ _ _ _ _ _ us hl => match us, hl with | [_], _ => rfl) fun cdv A outer s0 H E hr => ?_
  have nd := S.nd
  have tk := takesD (P := P) (w := w) (K := K) (mg := mg) (base := base) (N := ["_law_deed", "_law_line_here", "_law_name", "_law_k"]) (qual := "_law_line") (scope := defScope (top 24)) (f := He.ga K "_law_line") (cdv := cdv) (A := A) (outer := outer) (s := s0) (H := H) (E := E)
  unfold b_l_line
  exact (sss_cons (ss_if (te_q (st_eq (W := WD E) hr (sa_sub hr (sa_var (pv 0)) sd_int) (sa_v (sv_d sd_str))))
    (sss_one (ss_ret (se_v (sv_add (sa_v (sv_add (sa_v (sv_add (sa_v (sv_d sd_str)) (sa_v (sv_str1 T.z_str (sa_sub hr (sa_sub hr (sa_var (pv 0)) sd_int) sd_int))))) (sa_v (sv_d sd_str)))) (sa_v (sv_str1 T.z_str (sa_sub hr (sa_sub hr (sa_var (pv 0)) sd_int) sd_int)))))))
    sss_nil)
    (sss_cons (ss_set (i := 1) nd rfl (.inl rfl) (se_v (sv_d (sd_a (sa_sub hr (sa_var (pv 0)) sd_int)))))
    (sss_cons (ss_kl [2] (ss_if (te_q (st_eq (W := WD E) hr (sa_sub hr (sa_var (pv 0)) sd_int) (sa_v (sv_d sd_str))))
    (sss_cons (ss_set (i := 1) nd rfl (.inl rfl) (se_v (sv_add (sa_v (sv_add (sa_var (pv 1)) (sa_v (sv_d sd_str)))) (sa_sub hr (sa_var (pv 0)) sd_int))))
    (sss_cons (ss_kl [2] (ss_forD (i := 2) passD rfl nd rfl (.inl rfl) (sd_a (sa_sub hr (sa_var (pv 0)) sd_int)) (show SSs _ _ _ _ w_l_line_0 from by unfold w_l_line_0; exact (sss_kl [2] (sss_one (ss_set (i := 1) nd rfl (.inl rfl) (se_v (sv_add (sa_v (sv_add (sa_var (pv 1)) (sa_v (sv_d sd_str)))) (sa_var (pv 2))))))))))
    (sss_one (ss_ret (se_mv (pv 1))))))
    sss_nil))
    (sss_cons (ss_kl [3] (ss_forR2 (i := 3) T.z_range passD rfl nd rfl (.inl rfl) sd_int (sd_v (v_len T.z_len (sa_var (pv 0)))) (show SSs _ _ _ _ w_l_line_1 from by unfold w_l_line_1; exact (sss_kl [3] (sss_one (ss_set (i := 1) nd rfl (.inl rfl) (se_v (sv_add (sa_v (sv_add (sa_var (pv 1)) (sa_v (sv_d sd_str)))) (sa_v (sv_str1 T.z_str (sa_sub hr (sa_var (pv 0)) (sd_a (sa_var (pv 3))))))))))))))
    (sss_one (ss_ret (se_mv (pv 1))))))))
theorem q_good_name (T : Tx K mg) : Fq P w K mg base (He.ga K "good_name") 1 [] f_good_name := by
  obtain ⟨fd, F⟩ := T.d_good_name
  have S : FnScope ["text", "sign"] ["text"] (defScope (top 8)) := ⟨rfl, rfl, rfl, by decide +kernel, rfl, by decide +kernel, by decide +kernel⟩
  refine fq_of (k := 0) F S (fun _ _ _ _ _ _ us hl => match us, hl with | [_], _ => rfl) fun cdv A outer s0 H E hr => ?_
  have nd := S.nd
  have tk := takesD (P := P) (w := w) (K := K) (mg := mg) (base := base) (N := ["text", "sign"]) (qual := "good_name") (scope := defScope (top 8)) (f := He.ga K "good_name") (cdv := cdv) (A := A) (outer := outer) (s := s0) (H := H) (E := E)
  unfold b_good_name
  exact (sss_cons (ss_if (te_q (st_w (sw_or (st_lt (W := WD E) (sa_v (v_len T.z_len (sa_var (pv 0)))) (sa_v (sv_d sd_int))) (sw_or1 (t_gt (W := WD E) (sa_v (v_len T.z_len (sa_var (pv 0)))) (sa_v (sv_d (sd_gint T.c_LONGEST_names))))))))
    (sss_one (ss_ret (se_v (sv_d sd_bool))))
    sss_nil)
    (sss_cons (ss_kl [1] (ss_forD (i := 1) passD rfl nd rfl (.inl rfl) (sd_a (sa_var (pv 0))) (show SSs _ _ _ _ w_good_name_0 from by unfold w_good_name_0; exact (sss_kl [1] (sss_one (ss_if (te_q (st_notIn (W := WD E) hr (sa_var (pv 1)) (sa_v (sv_d (sd_gstr T.c_SIGNS)))))
    (sss_one (ss_ret (se_v (sv_d sd_bool))))
    sss_nil))))))
    (sss_one (ss_ret (se_v (sv_d sd_bool))))))
theorem q_name_of (T : Tx K mg) : Fq P w K mg base (He.ga K "name_of") 2 [] f_name_of := by
  obtain ⟨fd, F⟩ := T.d_name_of
  have S : FnScope ["text"] ["text"] (defScope (top 15)) := ⟨rfl, rfl, rfl, by decide +kernel, rfl, by decide +kernel, by decide +kernel⟩
  refine fq_of (k := 1) F S (fun _ _ _ _ _ _ us hl => match us, hl with | [_], _ => rfl) fun cdv A outer s0 H E hr => ?_
  have nd := S.nd
  have tk := takesD (P := P) (w := w) (K := K) (mg := mg) (base := base) (N := ["text"]) (qual := "name_of") (scope := defScope (top 15)) (f := He.ga K "name_of") (cdv := cdv) (A := A) (outer := outer) (s := s0) (H := H) (E := E)
  unfold b_name_of
  exact (sss_cons (ss_if (te_q (t_not (t_val (W := WD E) (sv_call (q_good_name T) T.g_good_name T.k_good_name hr tk (sas_cons (sa_var (pv 0)) sas_nil)))))
    (sss_one (ss_raise rfl tk T.x_NoTale.1 T.g_NoTale T.x_NoTale.2.1 T.x_NoTale.2.2.1 T.x_NoTale.2.2.2))
    sss_nil)
    (sss_one (ss_ret (se_mv (pv 0)))))
theorem q_whole_of (T : Tx K mg) : Fq P w K mg base (He.ga K "whole_of") 1 [] f_whole_of := by
  obtain ⟨fd, F⟩ := T.d_whole_of
  have S : FnScope ["text", "figures", "sign"] ["text"] (defScope (top 13)) := ⟨rfl, rfl, rfl, by decide +kernel, rfl, by decide +kernel, by decide +kernel⟩
  refine fq_of (k := 0) F S (fun _ _ _ _ _ _ us hl => match us, hl with | [_], _ => rfl) fun cdv A outer s0 H E hr => ?_
  have nd := S.nd
  have tk := takesD (P := P) (w := w) (K := K) (mg := mg) (base := base) (N := ["text", "figures", "sign"]) (qual := "whole_of") (scope := defScope (top 13)) (f := He.ga K "whole_of") (cdv := cdv) (A := A) (outer := outer) (s := s0) (H := H) (E := E)
  unfold b_whole_of
  exact (sss_cons (ss_set (i := 1) nd rfl (.inl rfl) (se_fz (se_mv (pv 0))))
    (sss_cons (ss_if (te_q (st_eq (W := WD E) hr (sa_v (sv_fr (sv_slice (sa_var (pv 0)) so_none (so_some (W := WD E) sd_int)))) (sa_v (sv_d sd_str))))
    (sss_one (ss_set (i := 1) nd rfl (.inl rfl) (se_fz (se_v (sv_slice (sa_var (pv 0)) (so_some (W := WD E) sd_int) so_none)))))
    sss_nil)
    (sss_cons (ss_if (te_q (st_w (sw_or (st_lt (W := WD E) (sa_v (v_len T.z_len (sa_var (pv 1)))) (sa_v (sv_d sd_int))) (sw_or1 (t_gt (W := WD E) (sa_v (v_len T.z_len (sa_var (pv 1)))) (sa_v (sv_d (sd_gint T.c_LONGEST_tale))))))))
    (sss_one (ss_raise rfl tk T.x_NoTale.1 T.g_NoTale T.x_NoTale.2.1 T.x_NoTale.2.2.1 T.x_NoTale.2.2.2))
    sss_nil)
    (sss_cons (ss_kl [2] (ss_forV (i := 2) (j := 1) passD rfl nd rfl (.inl rfl) (pv 1) (show SSs _ _ _ _ w_whole_of_0 from by unfold w_whole_of_0; exact (sss_kl [2] (sss_one (ss_if (te_q (st_notIn (W := WD E) hr (sa_var (pv 2)) (sa_v (sv_d (sd_gstr T.c_FIGURES)))))
    (sss_one (ss_raise rfl tk T.x_NoTale.1 T.g_NoTale T.x_NoTale.2.1 T.x_NoTale.2.2.1 T.x_NoTale.2.2.2))
    sss_nil))))))
    (sss_cons (ss_kl [1] (ss_if (te_q (st_w (sw_and (st_eq (W := WD E) hr (sa_sub hr (sa_var (pv 1)) sd_int) (sa_v (sv_d sd_str))) (sw_and1 (st_ne (W := WD E) hr (sa_var (pv 0)) (sa_v (sv_d sd_str)))))))
    (sss_one (ss_raise rfl tk T.x_NoTale.1 T.g_NoTale T.x_NoTale.2.1 T.x_NoTale.2.2.1 T.x_NoTale.2.2.2))
    sss_nil))
    (sss_one (ss_ret (se_v (sv_int1 T.z_int (sa_var (pv 0)))))))))))
theorem q_shared (T : Tx K mg) : Fq P w K mg base (He.ga K "shared") 1 [] f_shared := by
  obtain ⟨fd, F⟩ := T.d_shared
  have S : FnScope ["one", "two"] ["one", "two"] (defScope (top 4)) := ⟨rfl, rfl, rfl, by decide +kernel, rfl, by decide +kernel, by decide +kernel⟩
  refine fq_of (k := 0) F S (fun _ _ _ _ _ _ us hl => match us, hl with | [_, _], _ => rfl) fun cdv A outer s0 H E hr => ?_
  have nd := S.nd
  have tk := takesD (P := P) (w := w) (K := K) (mg := mg) (base := base) (N := ["one", "two"]) (qual := "shared") (scope := defScope (top 4)) (f := He.ga K "shared") (cdv := cdv) (A := A) (outer := outer) (s := s0) (H := H) (E := E)
  unfold b_shared
  exact (sss_cons (ss_set (i := 0) nd rfl (.inl rfl) (se_v (sv_abs T.z_abs (sa_var (pv 0)))))
    (sss_cons (ss_set (i := 1) nd rfl (.inl rfl) (se_fz (se_v (sv_abs T.z_abs (sa_var (pv 1))))))
    (sss_cons (ss_while passD (st_ne (W := WD E) hr (sa_var (pv 1)) (sa_v (sv_d sd_int))) (show SSs _ _ _ _ w_shared_0 from by unfold w_shared_0; exact (sss_one (ss_par (i := 0) (j := 1) rfl nd rfl rfl (sds_cons (sd_a (sa_var (pv 1))) (sds_cons (sd_v (v_mod (sa_var (pv 0)) (sa_var (pv 1)))) sds_nil))))))
    (sss_one (ss_ret (se_mv (pv 0)))))))
theorem q_moment_of (T : Tx K mg) : Fq P w K mg base (He.ga K "moment_of") 2 [] f_moment_of := by
  obtain ⟨fd, F⟩ := T.d_moment_of
  have S : FnScope ["text", "parts", "top", "bottom"] ["text"] (defScope (top 14)) := ⟨rfl, rfl, rfl, by decide +kernel, rfl, by decide +kernel, by decide +kernel⟩
  refine fq_of (k := 1) F S (fun _ _ _ _ _ _ us hl => match us, hl with | [_], _ => rfl) fun cdv A outer s0 H E hr => ?_
  have nd := S.nd
  have tk := takesD (P := P) (w := w) (K := K) (mg := mg) (base := base) (N := ["text", "parts", "top", "bottom"]) (qual := "moment_of") (scope := defScope (top 14)) (f := He.ga K "moment_of") (cdv := cdv) (A := A) (outer := outer) (s := s0) (H := H) (E := E)
  unfold b_moment_of
  exact (sss_cons (ss_set (i := 1) nd rfl (.inl rfl) (se_fz (se_v (sv_split (sd_a (sa_var (pv 0))) sd_str))))
    (sss_cons (ss_if (te_q (st_ne (W := WD E) hr (sa_v (v_len T.z_len (sa_var (pv 1)))) (sa_v (sv_d sd_int))))
    (sss_one (ss_raise rfl tk T.x_NoTale.1 T.g_NoTale T.x_NoTale.2.1 T.x_NoTale.2.2.1 T.x_NoTale.2.2.2))
    sss_nil)
    (sss_cons (ss_set (i := 2) nd rfl (.inl rfl) (se_fz (se_v (sv_call (q_whole_of T) T.g_whole_of T.k_whole_of hr tk (sas_cons (sa_sub hr (sa_var (pv 1)) sd_int) sas_nil)))))
    (sss_cons (ss_set (i := 3) nd rfl (.inl rfl) (se_fz (se_v (sv_call (q_whole_of T) T.g_whole_of T.k_whole_of hr tk (sas_cons (sa_sub hr (sa_var (pv 1)) sd_int) sas_nil)))))
    (sss_cons (ss_kl [1] (ss_if (te_q (st_w (sw_or (st_lt (W := WD E) (sa_var (pv 2)) (sa_v (sv_d sd_int))) (sw_or (st_lt (W := WD E) (sa_var (pv 3)) (sa_v (sv_d sd_int))) (sw_or1 (st_ne (W := WD E) hr (sa_v (sv_fr (sv_call (q_shared T) T.g_shared T.k_shared hr tk (sas_cons (sa_var (pv 2)) (sas_cons (sa_var (pv 3)) sas_nil))))) (sa_v (sv_d sd_int))))))))
    (sss_one (ss_raise rfl tk T.x_NoTale.1 T.g_NoTale T.x_NoTale.2.1 T.x_NoTale.2.2.1 T.x_NoTale.2.2.2))
    sss_nil))
    (sss_one (ss_ret (se_v (sv_d (sd_tup (sds_cons (sd_a (sa_var (pv 2))) (sds_cons (sd_a (sa_var (pv 3))) sds_nil))))))))))))
theorem q_deed_of (T : Tx K mg) : Fq P w K mg base (He.ga K "deed_of") 3 [] f_deed_of := by
  obtain ⟨fd, F⟩ := T.d_deed_of
  have S : FnScope ["line", "words", "word", "many", "names", "part"] ["line"] (defScope (top 16)) := ⟨rfl, rfl, rfl, by decide +kernel, rfl, by decide +kernel, by decide +kernel⟩
  refine fq_of (k := 2) F S (fun _ _ _ _ _ _ us hl => match us, hl with | [_], _ => rfl) fun cdv A outer s0 H E hr => ?_
  have nd := S.nd
  have tk := takesD (P := P) (w := w) (K := K) (mg := mg) (base := base) (N := ["line", "words", "word", "many", "names", "part"]) (qual := "deed_of") (scope := defScope (top 16)) (f := He.ga K "deed_of") (cdv := cdv) (A := A) (outer := outer) (s := s0) (H := H) (E := E)
  unfold b_deed_of
  exact (sss_cons (ss_set (i := 1) nd rfl (.inl rfl) (se_fz (se_v (sv_split (sd_a (sa_var (pv 0))) sd_str))))
    (sss_cons (ss_set (i := 2) nd rfl (.inl rfl) (se_fz (se_v (sv_d (sd_a (sa_sub hr (sa_var (pv 1)) sd_int))))))
    (sss_cons (ss_set (i := 3) nd rfl (.inl rfl) (se_fz (se_v (v_len T.z_len (sa_var (pv 1))))))
    (sss_cons (ss_if (te_q (st_w (sw_and (st_eq (W := WD E) hr (sa_var (pv 2)) (sa_v (sv_d sd_str))) (sw_and1 (st_eq (W := WD E) hr (sa_var (pv 3)) (sa_v (sv_d sd_int)))))))
    (sss_one (ss_ret (se_v (sv_d (sd_tup (sds_cons (sd_a (sa_var (pv 2))) sds_nil))))))
    sss_nil)
    (sss_cons (ss_if (te_q (st_w (sw_and (st_eq (W := WD E) hr (sa_var (pv 2)) (sa_v (sv_d sd_str))) (sw_and1 (st_eq (W := WD E) hr (sa_var (pv 3)) (sa_v (sv_d sd_int)))))))
    (sss_one (ss_ret (se_v (sv_d (sd_tup (sds_cons (sd_a (sa_var (pv 2))) (sds_cons (sd_v (sv_call (q_name_of T) T.g_name_of T.k_name_of hr tk (sas_cons (sa_sub hr (sa_var (pv 1)) sd_int) sas_nil))) (sds_cons (sd_v (sv_call (q_whole_of T) T.g_whole_of T.k_whole_of hr tk (sas_cons (sa_sub hr (sa_var (pv 1)) sd_int) sas_nil))) (sds_cons (sd_v (sv_call (q_whole_of T) T.g_whole_of T.k_whole_of hr tk (sas_cons (sa_sub hr (sa_var (pv 1)) sd_int) sas_nil))) sds_nil)))))))))
    sss_nil)
    (sss_cons (ss_if (te_q (st_w (sw_and (st_eq (W := WD E) hr (sa_var (pv 2)) (sa_v (sv_d sd_str))) (sw_and1 (st_eq (W := WD E) hr (sa_var (pv 3)) (sa_v (sv_d sd_int)))))))
    (sss_one (ss_ret (se_v (sv_d (sd_tup (sds_cons (sd_a (sa_var (pv 2))) (sds_cons (sd_v (sv_call (q_name_of T) T.g_name_of T.k_name_of hr tk (sas_cons (sa_sub hr (sa_var (pv 1)) sd_int) sas_nil))) (sds_cons (sd_v (sv_call (q_whole_of T) T.g_whole_of T.k_whole_of hr tk (sas_cons (sa_sub hr (sa_var (pv 1)) sd_int) sas_nil))) sds_nil))))))))
    sss_nil)
    (sss_cons (ss_if (te_q (st_w (sw_and (st_eq (W := WD E) hr (sa_var (pv 2)) (sa_v (sv_d sd_str))) (sw_and1 (st_eq (W := WD E) hr (sa_var (pv 3)) (sa_v (sv_d sd_int)))))))
    (sss_one (ss_ret (se_v (sv_d (sd_tup (sds_cons (sd_a (sa_var (pv 2))) (sds_cons (sd_v (sv_call (q_moment_of T) T.g_moment_of T.k_moment_of hr tk (sas_cons (sa_sub hr (sa_var (pv 1)) sd_int) sas_nil))) sds_nil)))))))
    sss_nil)
    (sss_cons (ss_if (te_q (st_w (sw_and (st_inS (W := WD E) (sa_var (pv 2)) (sa_v (sv_d (sd_tup (sds_cons sd_str (sds_cons sd_str sds_nil)))))) (sw_and1 (st_eq (W := WD E) hr (sa_var (pv 3)) (sa_v (sv_d sd_int)))))))
    (sss_one (ss_ret (se_v (sv_d (sd_tup (sds_cons (sd_a (sa_var (pv 2))) (sds_cons (sd_v (sv_call (q_name_of T) T.g_name_of T.k_name_of hr tk (sas_cons (sa_sub hr (sa_var (pv 1)) sd_int) sas_nil))) sds_nil)))))))
    sss_nil)
    (sss_cons (ss_kl [1, 2, 3, 4, 5] (ss_if (te_q (st_w (sw_and (st_eq (W := WD E) hr (sa_var (pv 2)) (sa_v (sv_d sd_str))) (sw_and1 (t_ge (W := WD E) (sa_var (pv 3)) (sa_v (sv_d sd_int)))))))
    (sss_cons (ss_setLcF (i := 5) (m := 4) rfl nd rfl rfl (si_a (W := WD E) (sa_v (sv_fr (sv_slice (sa_var (pv 1)) (so_some (W := WD E) sd_int) so_none)))) (blkOk_by (N := ["line", "words", "word", "many", "names", "part"]) (sc := defScope (top 16)) (by decide +kernel)) (fun _ _ _ _ _ => pg_name (i := 5) nd rfl (Or.inl rfl)) (fun _ _ _ _ _ => sts_nil) (fun _ _ _ _ _ => (sd_v (sv_call (q_name_of T) T.g_name_of T.k_name_of hr Cg.takes0 (sas_cons (sa_var (pv 5)) sas_nil)))))
    (sss_one (ss_ret (se_v (sv_d (sd_tup (sds_cons (sd_a (sa_var (pv 2))) (sds_cons (sd_v (sv_call (q_name_of T) T.g_name_of T.k_name_of hr tk (sas_cons (sa_sub hr (sa_var (pv 1)) sd_int) sas_nil))) (sds_cons (sd_v (sv_tuple T.z_tuple (sa_var (pv 4)))) sds_nil)))))))))
    sss_nil))
    (sss_one (ss_raise rfl tk T.x_NoTale.1 T.g_NoTale T.x_NoTale.2.1 T.x_NoTale.2.2.1 T.x_NoTale.2.2.2)))))))))))
theorem q__law_cell (T : Tx K mg) : Fq P w K mg base (He.ga K "_law_cell") 1 [] f_l_cell := by
  obtain ⟨fd, F⟩ := T.d__law_cell
  have S : FnScope ["_law_script", "_law_k"] ["_law_script", "_law_k"] (defScope (top 18)) := ⟨rfl, rfl, rfl, by decide +kernel, rfl, by decide +kernel, by decide +kernel⟩
  refine fq_of (k := 0) F S (fun _ _ _ _ _ _ us hl => match us, hl with | [_, _], _ => rfl) fun cdv A outer s0 H E hr => ?_
  have nd := S.nd
  have tk := takesD (P := P) (w := w) (K := K) (mg := mg) (base := base) (N := ["_law_script", "_law_k"]) (qual := "_law_cell") (scope := defScope (top 18)) (f := He.ga K "_law_cell") (cdv := cdv) (A := A) (outer := outer) (s := s0) (H := H) (E := E)
  unfold b_l_cell
  exact (sss_cons (ss_if (te_q (st_lt (W := WD E) (sa_var (pv 1)) (sa_v (v_len T.z_len (sa_var (pv 0))))))
    (sss_one (ss_ret (se_v (sv_d (sd_a (sa_sub hr (sa_var (pv 0)) (sd_a (sa_var (pv 1)))))))))
    sss_nil)
    (sss_one (ss_ret (se_v (sv_add (sa_v (sv_d sd_int)) (sa_v (sv_mul (sa_v (sv_d sd_int)) (sa_var (pv 1)))))))))
theorem q__law_whole (T : Tx K mg) : Fq P w K mg base (He.ga K "_law_whole") 1 [] f_l_whole := by
  obtain ⟨fd, F⟩ := T.d__law_whole
  have S : FnScope ["_law_found"] ["_law_found"] (defScope (top 20)) := ⟨rfl, rfl, rfl, by decide +kernel, rfl, by decide +kernel, by decide +kernel⟩
  refine fq_of (k := 0) F S (fun _ _ _ _ _ _ us hl => match us, hl with | [_], _ => rfl) fun cdv A outer s0 H E hr => ?_
  have nd := S.nd
  have tk := takesD (P := P) (w := w) (K := K) (mg := mg) (base := base) (N := ["_law_found"]) (qual := "_law_whole") (scope := defScope (top 20)) (f := He.ga K "_law_whole") (cdv := cdv) (A := A) (outer := outer) (s := s0) (H := H) (E := E)
  unfold b_l_whole
  exact (sss_one (ss_ret (se_v (sv_and (sv_asB (sv_isi T.z_isinstance T.z_int (by decide +kernel) (sa_var (pv 0)))) (sv_one (v_not (sv_asB (sv_isi T.z_isinstance T.z_bool (by decide +kernel) (sa_var (pv 0))))))))))
theorem q__law_part (T : Tx K mg) : Fq P w K mg base (He.ga K "_law_part") 2 [] f_l_part := by
  obtain ⟨fd, F⟩ := T.d__law_part
  have S : FnScope ["_law_found", "_law_due"] ["_law_found", "_law_due"] (defScope (top 22)) := ⟨rfl, rfl, rfl, by decide +kernel, rfl, by decide +kernel, by decide +kernel⟩
  refine fq_of (k := 1) F S (fun _ _ _ _ _ _ us hl => match us, hl with | [_, _], _ => rfl) fun cdv A outer s0 H E hr => ?_
  have nd := S.nd
  have tk := takesD (P := P) (w := w) (K := K) (mg := mg) (base := base) (N := ["_law_found", "_law_due"]) (qual := "_law_part") (scope := defScope (top 22)) (f := He.ga K "_law_part") (cdv := cdv) (A := A) (outer := outer) (s := s0) (H := H) (E := E)
  unfold b_l_part
  exact (sss_cons (ss_if (te_q (st_w (sw_or (t_not (t_val (W := WD E) (sv_isi T.z_isinstance T.z_tuple (by decide +kernel) (sa_var (pv 0))))) (sw_or1 (st_ne (W := WD E) hr (sa_v (v_len T.z_len (sa_var (pv 0)))) (sa_v (sv_d sd_int)))))))
    (sss_one (ss_ret (se_v (sv_d sd_bool))))
    sss_nil)
    (sss_cons (ss_if (te_q (st_w (sw_or (t_not (t_val (W := WD E) (sv_call (q__law_whole T) T.g__law_whole T.k__law_whole hr tk (sas_cons (sa_sub hr (sa_var (pv 0)) sd_int) sas_nil)))) (sw_or1 (t_not (t_val (W := WD E) (sv_call (q__law_whole T) T.g__law_whole T.k__law_whole hr tk (sas_cons (sa_sub hr (sa_var (pv 0)) sd_int) sas_nil))))))))
    (sss_one (ss_ret (se_v (sv_d sd_bool))))
    sss_nil)
    (sss_one (ss_ret (se_v (sv_eq hr (sa_var (pv 0)) (sa_var (pv 1))))))))
theorem q__law_deedalike (T : Tx K mg) : Fq P w K mg base (He.ga K "_law_deedalike") 3 [] f_l_deedalike := by
  obtain ⟨fd, F⟩ := T.d__law_deedalike
  have S : FnScope ["_law_found", "_law_due", "_law_k"] ["_law_found", "_law_due"] (defScope (top 26)) := ⟨rfl, rfl, rfl, by decide +kernel, rfl, by decide +kernel, by decide +kernel⟩
  refine fq_of (k := 2) F S (fun _ _ _ _ _ _ us hl => match us, hl with | [_, _], _ => rfl) fun cdv A outer s0 H E hr => ?_
  have nd := S.nd
  have tk := takesD (P := P) (w := w) (K := K) (mg := mg) (base := base) (N := ["_law_found", "_law_due", "_law_k"]) (qual := "_law_deedalike") (scope := defScope (top 26)) (f := He.ga K "_law_deedalike") (cdv := cdv) (A := A) (outer := outer) (s := s0) (H := H) (E := E)
  unfold b_l_deedalike
  exact (sss_cons (ss_if (te_q (st_w (sw_or (t_not (t_val (W := WD E) (sv_isi T.z_isinstance T.z_tuple (by decide +kernel) (sa_var (pv 0))))) (sw_or (st_ne (W := WD E) hr (sa_v (v_len T.z_len (sa_var (pv 0)))) (sa_v (v_len T.z_len (sa_var (pv 1))))) (sw_or1 (st_ne (W := WD E) hr (sa_var (pv 0)) (sa_var (pv 1))))))))
    (sss_one (ss_ret (se_v (sv_d sd_bool))))
    sss_nil)
    (sss_cons (ss_if (te_q (st_eq (W := WD E) hr (sa_sub hr (sa_var (pv 1)) sd_int) (sa_v (sv_d sd_str))))
    (sss_one (ss_ret (se_v (sv_call (q__law_part T) T.g__law_part T.k__law_part hr tk (sas_cons (sa_sub hr (sa_var (pv 0)) sd_int) (sas_cons (sa_sub hr (sa_var (pv 1)) sd_int) sas_nil))))))
    sss_nil)
    (sss_cons (ss_if (te_q (st_eq (W := WD E) hr (sa_sub hr (sa_var (pv 1)) sd_int) (sa_v (sv_d sd_str))))
    (sss_one (ss_ret (se_v (sv_isi T.z_isinstance T.z_tuple (by decide +kernel) (sa_sub hr (sa_var (pv 0)) sd_int)))))
    sss_nil)
    (sss_cons (ss_kl [2] (ss_forR2 (i := 2) T.z_range passD rfl nd rfl (.inl rfl) sd_int (sd_v (v_len T.z_len (sa_var (pv 1)))) (show SSs _ _ _ _ w_l_deedalike_0 from by unfold w_l_deedalike_0; exact (sss_kl [2] (sss_one (ss_if (te_q (t_not (t_val (W := WD E) (sv_call (q__law_whole T) T.g__law_whole T.k__law_whole hr tk (sas_cons (sa_sub hr (sa_var (pv 0)) (sd_a (sa_var (pv 2)))) sas_nil)))))
    (sss_one (ss_ret (se_v (sv_d sd_bool))))
    sss_nil))))))
    (sss_one (ss_ret (se_v (sv_isi T.z_isinstance T.z_str (by decide +kernel) (sa_sub hr (sa_var (pv 0)) sd_int)))))))))
theorem q_line_of (T : Tx K mg) : Fq P w K mg base (He.ga K "line_of") 1 [] f_line_of := by
  obtain ⟨fd, F⟩ := T.d_line_of
  have S : FnScope ["deed", "word", "part"] ["deed"] (defScope (top 12)) := ⟨rfl, rfl, rfl, by decide +kernel, rfl, by decide +kernel, by decide +kernel⟩
  refine fq_of (k := 0) F S (fun _ _ _ _ _ _ us hl => match us, hl with | [_], _ => rfl) fun cdv A outer s0 H E hr => ?_
  have nd := S.nd
  have tk := takesD (P := P) (w := w) (K := K) (mg := mg) (base := base) (N := ["deed", "word", "part"]) (qual := "line_of") (scope := defScope (top 12)) (f := He.ga K "line_of") (cdv := cdv) (A := A) (outer := outer) (s := s0) (H := H) (E := E)
  unfold b_line_of
  exact (sss_cons (ss_set (i := 1) nd rfl (.inl rfl) (se_fz (se_v (sv_d (sd_a (sa_sub hr (sa_var (pv 0)) sd_int))))))
    (sss_cons (ss_if (te_q (st_eq (W := WD E) hr (sa_var (pv 1)) (sa_v (sv_d sd_str))))
    (sss_one (ss_ret (se_v (sv_joined (SFs.cons sd_str (SFs.cons (sd_fmt (sd_a (sa_sub hr (sa_sub hr (sa_var (pv 0)) sd_int) sd_int))) (SFs.cons sd_str (SFs.cons (sd_fmt (sd_a (sa_sub hr (sa_sub hr (sa_var (pv 0)) sd_int) sd_int))) SFs.nil))))))))
    sss_nil)
    (sss_cons (ss_kl [1] (ss_if (te_q (st_eq (W := WD E) hr (sa_var (pv 1)) (sa_v (sv_d sd_str))))
    (sss_one (ss_ret (se_v (sv_join sd_str (sa_v (sv_add (sa_v (sv_fr (sv_lst (sds_cons (sd_a (sa_var (pv 1))) (sds_cons (sd_a (sa_sub hr (sa_var (pv 0)) sd_int)) sds_nil))))) (sa_v (sv_fr (sv_list rfl T.z_list (sa_sub hr (sa_var (pv 0)) sd_int))))))))))
    sss_nil))
    (sss_one (ss_ret (se_v (sv_join sd_str (sa_v (sv_fr (sv_lc (i := 2) rfl nd rfl (si_a (W := WD E) (sa_var (pv 0))) (blkOk_by (N := ["deed", "word", "part"]) (sc := defScope (top 12)) (by decide +kernel)) (fun _ _ _ _ _ => pg_name (i := 2) nd rfl (Or.inl rfl)) (fun _ _ _ _ _ => sts_nil) (fun _ _ _ _ _ => (sd_v (sv_str1 T.z_str (sa_var (pv 2)))))))))))))))
theorem q_law (T : Tx K mg) {fd : FuncData} (F : FunD K "law" "law" (defArgs (top 27)) (defBody (top 27)) (defScope (top 27)) [] [] (He.ga K "law") fd) : FnOk P w K mg base (L2.CX P w) 4 (He.ga K "law") fd ["_law_script"] (spM K [] f_law_k52) := by
  have S : FnScope ["_law_script", "_law_deed", "_law_line_here", "_law_found"] ["_law_script"] (defScope (top 27)) := ⟨rfl, rfl, rfl, by decide +kernel, rfl, by decide +kernel, by decide +kernel⟩
  refine fn_of (k := 3) F S (fun _ _ _ _ _ _ us hl => match us, hl with | [_], _ => rfl) fun cdv A outer s0 H E hr => ?_
  have nd := S.nd
  have tk := takesD (P := P) (w := w) (K := K) (mg := mg) (base := base) (N := ["_law_script", "_law_deed", "_law_line_here", "_law_found"]) (qual := "law") (scope := defScope (top 27)) (f := He.ga K "law") (cdv := cdv) (A := A) (outer := outer) (s := s0) (H := H) (E := E)
  unfold b_law_k52
  exact (sss_cons (ss_set (i := 1) nd rfl (.inl rfl) (se_fz (se_v (sv_call (q__law_anydeed T) T.g__law_anydeed T.k__law_anydeed hr tk (sas_cons (sa_v (sv_fr (sv_call (q__law_cell T) T.g__law_cell T.k__law_cell hr tk (sas_cons (sa_var (pv 0)) (sas_cons (sa_v (sv_d sd_int)) sas_nil))))) (sas_cons (sa_v (sv_fr (sv_call (q__law_cell T) T.g__law_cell T.k__law_cell hr tk (sas_cons (sa_var (pv 0)) (sas_cons (sa_v (sv_d sd_int)) sas_nil))))) sas_nil))))))
    (sss_cons (ss_set (i := 2) nd rfl (.inl rfl) (se_fz (se_v (sv_call (q__law_line T) T.g__law_line T.k__law_line hr tk (sas_cons (sa_var (pv 1)) sas_nil)))))
    (sss_cons (ss_set (i := 3) nd rfl (.inl rfl) (se_fz (se_v (sv_call (q_deed_of T) T.g_deed_of T.k_deed_of hr tk (sas_cons (sa_var (pv 2)) sas_nil)))))
    (sss_one (ss_ret (se_v (sv_and (sv_asB (sv_call (q__law_deedalike T) T.g__law_deedalike T.k__law_deedalike hr tk (sas_cons (sa_var (pv 3)) (sas_cons (sa_var (pv 1)) sas_nil)))) (sv_one (sv_eq hr (sa_v (sv_fr (sv_call (q_line_of T) T.g_line_of T.k_line_of hr tk (sas_cons (sa_var (pv 3)) sas_nil)))) (sa_var (pv 2)))))))))))
end
theorem tx {K : PySem.W.Frag} {h : Heap} {mg : Str → Option Value} (X : K.In h) (G : h.Ns mainGlobals mg) (c : He.SaysD fa fn K) : Tx K mg where
  d__law_digits := c.def_ 0 (d := dn0) rfl
  d__law_names := c.def_ 1 (d := dn1) rfl
  d__law_low := c.def_ 2 (d := dn2) rfl
  d__law_anydeed := c.def_ 3 (d := dn3) rfl
  d__law_line := c.def_ 4 (d := dn4) rfl
  d_good_name := c.def_ 5 (d := dn5) rfl
  d_name_of := c.def_ 6 (d := dn6) rfl
  d_whole_of := c.def_ 7 (d := dn7) rfl
  d_shared := c.def_ 8 (d := dn8) rfl
  d_moment_of := c.def_ 9 (d := dn9) rfl
  d_deed_of := c.def_ 10 (d := dn10) rfl
  d__law_cell := c.def_ 11 (d := dn11) rfl
  d__law_whole := c.def_ 12 (d := dn12) rfl
  d__law_part := c.def_ 13 (d := dn13) rfl
  d__law_deedalike := c.def_ 14 (d := dn14) rfl
  d_line_of := c.def_ 15 (d := dn15) rfl
  d_law := c.def_ 16 (d := dn16) rfl
  c_FIGURES := He.str_ok X G (c.fact 1 (f := .str "FIGURES" "0123456789") rfl)
  c_LONGEST_names := He.int_ok X G (c.fact 2 (f := .int "LONGEST_names" 8) rfl)
  c_LONGEST_tale := He.int_ok X G (c.fact 3 (f := .int "LONGEST_tale" 12) rfl)
  c_SIGNS := He.str_ok X G (c.fact 4 (f := .str "SIGNS" "abcdefghijklmnopqrstuvwxyz0123456789") rfl)
  g_NoTale := He.glo_ok X G (c.fact 5 (f := .glo "NoTale") rfl)
  g__law_anydeed := He.glo_ok X G (c.fact 6 (f := .glo "_law_anydeed") rfl)
  g__law_cell := He.glo_ok X G (c.fact 7 (f := .glo "_law_cell") rfl)
  g__law_deedalike := He.glo_ok X G (c.fact 8 (f := .glo "_law_deedalike") rfl)
  g__law_digits := He.glo_ok X G (c.fact 9 (f := .glo "_law_digits") rfl)
  g__law_line := He.glo_ok X G (c.fact 10 (f := .glo "_law_line") rfl)
  g__law_low := He.glo_ok X G (c.fact 11 (f := .glo "_law_low") rfl)
  g__law_names := He.glo_ok X G (c.fact 12 (f := .glo "_law_names") rfl)
  g__law_part := He.glo_ok X G (c.fact 13 (f := .glo "_law_part") rfl)
  g__law_whole := He.glo_ok X G (c.fact 14 (f := .glo "_law_whole") rfl)
  g_deed_of := He.glo_ok X G (c.fact 15 (f := .glo "deed_of") rfl)
  g_good_name := He.glo_ok X G (c.fact 16 (f := .glo "good_name") rfl)
  g_line_of := He.glo_ok X G (c.fact 17 (f := .glo "line_of") rfl)
  g_moment_of := He.glo_ok X G (c.fact 18 (f := .glo "moment_of") rfl)
  g_name_of := He.glo_ok X G (c.fact 19 (f := .glo "name_of") rfl)
  g_shared := He.glo_ok X G (c.fact 20 (f := .glo "shared") rfl)
  g_whole_of := He.glo_ok X G (c.fact 21 (f := .glo "whole_of") rfl)
  k__law_anydeed := (c.def_ 3 (d := dn3) rfl).elim fun _ F => F.kp
  k__law_cell := (c.def_ 11 (d := dn11) rfl).elim fun _ F => F.kp
  k__law_deedalike := (c.def_ 14 (d := dn14) rfl).elim fun _ F => F.kp
  k__law_digits := (c.def_ 0 (d := dn0) rfl).elim fun _ F => F.kp
  k__law_line := (c.def_ 4 (d := dn4) rfl).elim fun _ F => F.kp
  k__law_low := (c.def_ 2 (d := dn2) rfl).elim fun _ F => F.kp
  k__law_names := (c.def_ 1 (d := dn1) rfl).elim fun _ F => F.kp
  k__law_part := (c.def_ 13 (d := dn13) rfl).elim fun _ F => F.kp
  k__law_whole := (c.def_ 12 (d := dn12) rfl).elim fun _ F => F.kp
  k_deed_of := (c.def_ 10 (d := dn10) rfl).elim fun _ F => F.kp
  k_good_name := (c.def_ 5 (d := dn5) rfl).elim fun _ F => F.kp
  k_line_of := (c.def_ 15 (d := dn15) rfl).elim fun _ F => F.kp
  k_moment_of := (c.def_ 9 (d := dn9) rfl).elim fun _ F => F.kp
  k_name_of := (c.def_ 6 (d := dn6) rfl).elim fun _ F => F.kp
  k_shared := (c.def_ 8 (d := dn8) rfl).elim fun _ F => F.kp
  k_whole_of := (c.def_ 7 (d := dn7) rfl).elim fun _ F => F.kp
  x_NoTale := He.exc_ok (c.fact 22 (f := .exc "NoTale") rfl)
  z_abs := He.free_ok X G (c.fact 23 (f := .free "abs") rfl)
  z_bool := He.free_ok X G (c.fact 24 (f := .free "bool") rfl)
  z_int := He.free_ok X G (c.fact 25 (f := .free "int") rfl)
  z_isinstance := He.free_ok X G (c.fact 26 (f := .free "isinstance") rfl)
  z_len := He.free_ok X G (c.fact 27 (f := .free "len") rfl)
  z_list := He.free_ok X G (c.fact 28 (f := .free "list") rfl)
  z_range := He.free_ok X G (c.fact 29 (f := .free "range") rfl)
  z_str := He.free_ok X G (c.fact 30 (f := .free "str") rfl)
  z_tuple := He.free_ok X G (c.fact 31 (f := .free "tuple") rfl)
theorem facts {P : Program} {w : World} {K : PySem.W.Frag} {h : Heap} {mg : Str → Option Value} {f : Addr} (X : K.In h) (G : h.Ns mainGlobals mg) (hfa : mg ("law" : Str) = some (.ref f)) (c : He.SaysD fa fn K) :
    ∃ fd : FuncData, (∀ (s : Shared) (v : Value), BindsTo s fd ⟨[v], []⟩ [("_law_script", v)]) ∧ ∀ base : Heap, K.In base → base.Ns mainGlobals mg → FnOk P w K mg base (L2.CX P w) 4 f fd ["_law_script"] (spM K [] f_law_k52) := by
  have e := hfa.symm.trans (He.glo_ok X G (c.fact 0 (f := .glo "law") rfl))
  cases e
  obtain ⟨fd, F⟩ := c.def_ 16 (d := dn16) rfl
  have b := FunD.bindsA (ps := ["_law_script"]) F fun _ _ _ _ _ _ us hl => match us, hl with | [_], _ => rfl
  exact ⟨fd, fun s v => b s [v] rfl, fun base _ _ => q_law (tx X G c) F⟩
end Lw
open PySem PySem.W PySem.Calls PyProof.Rows
theorem PySem.Challenge.cw_overhaul_k52_a_line_read_holds : PySem.Challenge.rw_overhaul_k52_a_line_read.Holds := by
  w_on; o_law
  refine HandSHeadRun.head_any (r := OpenLaw.row PySem.Challenge.rw_overhaul_k52_a_line_read) (q := view (OpenLaw.row PySem.Challenge.rw_overhaul_k52_a_line_read).prog [27]) (H := Lw.hk) (ob := Lw.ob) (M := 12000) (loose := Lw.names) (d := HandSHeadRun.topDef (OpenLaw.row PySem.Challenge.rw_overhaul_k52_a_line_read).prog 27) (kwd := []) Lw.ob_eq
    (by kernel_rfl) (fun s => by kernel_rfl) Lw.run (by kernel_rfl) (by kernel_rfl) (by kernel_rfl) (by rfl) (by first | assumption | decide +kernel) (by decide +kernel) ⟨rfl, rfl, rfl, rfl, rfl, by decide +kernel⟩ ?hw ?hc
  case hw => w_witness2
  case hc =>
    refine Cg.walk_w (l := PySem.Challenge.rw_overhaul_k52_a_line_read) (n := 63) (k := 4) (x := "_law_script") (CX := fun w => L2.CX (PySem.Challenge.rw_overhaul_k52_a_line_read).prog w) rfl (by decide) (by kernel_rfl) ⟨rfl, by decide, by decide⟩ ?F ?G
    case G => exact fun _ _ _ _ _ z => Cg.cx_end z
    intro w mg fa h Y G hmg0
    obtain ⟨K, KX, c⟩ := Y
    have hmg : mg ("law" : PySem.Str) = some (.ref fa) := by
      have e : (HandSHeadRun.topDef (OpenLaw.row PySem.Challenge.rw_overhaul_k52_a_line_read).prog 27).name = ("law" : PySem.Str) := by kernel_rfl
      rw [← e]
      exact hmg0
    obtain ⟨fd, hb, hF⟩ := Lw.facts (P := (PySem.Challenge.rw_overhaul_k52_a_line_read).prog) (w := w) KX G hmg c
    exact ⟨K, fd, Cg.spM K [] Sm.f_law_k52, KX, hb, fun H a ns hl hO hS => Cg.law_true hO hS (Sm.law_k52_true ns hl), hF⟩
