import PyProof.Rows.All
import Wide.All
import OpenK.AllK
import Wide.FinOn
import HandS.ForMost
import HandS.Deep
import HandS.Walk
import KE.KDictKeyed
import KE.Datum
import KE.DatumOrd
import KE.DatumMore
import KE.DatumMoreOrd
import HandS.IsInst
import HandS.Property
import HandS.Style
import HandS.TupMul
import KE.SortData
import KE.SortKeyHeap
import HandS.SortKw
import HandS.CallRecv
import HandS.Zip
import PySem.Challenge.RW_runcolumns_k21_whole_ties
import KE.GoesMore
import KE.GoesEnum
import HandS.ListItems
import HandS.GenBody
import KE.KDictZip
import HandS.TupSets
import PyProof.WalksMore
import HandS.Star
import HandS.OwnEq
import HandS.DictComp
import HandS.TupAny
set_option Elab.async false
set_option linter.all false
set_option maxHeartbeats 4000000
set_option maxRecDepth 100000
/-! RcA: data, what stands for them in the abstract heap, environments of data, the judgements. -/
namespace RC
open PySem L2

/-! ### data without lists and dicts -/
mutual
def im : PyData → Bool
  | .none => true
  | .bool _ => true
  | .int _ => true
  | .str _ => true
  | .list _ => false
  | .tuple xs => ims xs
  | .dict _ => false
def ims : List PyData → Bool
  | [] => true
  | x :: xs => im x && ims xs
end
theorem ims_mem : ∀ {xs : List PyData} {x : PyData}, ims xs = true → x ∈ xs → im x = true
  | [], _, _, h => by cases h
  | y :: ys, x, h, hm => by
    simp only [ims, Bool.and_eq_true] at h
    rcases List.mem_cons.mp hm with rfl | hm
    · exact h.1
    · exact ims_mem h.2 hm
theorem ims_of : ∀ {xs : List PyData}, (∀ x, x ∈ xs → im x = true) → ims xs = true
  | [], _ => rfl
  | y :: ys, h => by
    simp only [ims, Bool.and_eq_true]
    exact ⟨h y List.mem_cons_self, ims_of fun x hx => h x (List.mem_cons_of_mem _ hx)⟩
theorem ims_map {α : Type} {f : α → PyData} (h : ∀ a, im (f a) = true) (xs : List α) : ims (xs.map f) = true :=
  ims_of fun x hx => by
    obtain ⟨a, _, rfl⟩ := List.mem_map.mp hx
    exact h a
theorem ims_append {xs ys : List PyData} (h : ims xs = true) (k : ims ys = true) : ims (xs ++ ys) = true :=
  ims_of fun x hx => by
    rcases List.mem_append.mp hx with hx | hx
    · exact ims_mem h hx
    · exact ims_mem k hx

/-! ### heaps that grow; heaps without some addresses -/
def Gr (H H' : Hp) : Prop := ∀ a o, H a = some o → H' a = some o
theorem Gr.refl (H : Hp) : Gr H H := fun _ _ h => h
theorem Gr.trans {H H1 H2 : Hp} (a : Gr H H1) (b : Gr H1 H2) : Gr H H2 := fun c o h => b c o (a c o h)
theorem Gr.new {H : Hp} {p : Addr} {o : HO} (h : H p = none) : Gr H (upd H p o) := fun a u e => by
  rw [upd_ne (ne_of_none e h)]
  exact e
theorem Gr.back {H H' : Hp} {p : Addr} (e : Gr H H') (h : H' p = none) : H p = none := by
  cases q : H p with
  | none => rfl
  | some o => rw [e p o q] at h; cases h
theorem Gr.rd {H H' : Hp} {a : Addr} {u : HO} (e : Gr H H') (h : Rd H a u) : Rd H' a u := by
  rcases h with h | ⟨o, h⟩
  · exact .inl (e a _ h)
  · exact .inr ⟨o, e a _ h⟩
theorem Gr.sqL {K : PySem.W.Frag} {H H' : Hp} {a : Addr} {xs : List V} (e : Gr H H') (h : SqL K H a xs) : SqL K H' a xs := by
  rcases h with h | h
  · exact .inl (e.rd h)
  · exact .inr h
theorem Gr.sqT {K : PySem.W.Frag} {H H' : Hp} {a : Addr} {xs : List V} (e : Gr H H') (h : SqT K H a xs) : SqT K H' a xs := by
  rcases h with h | h
  · exact .inl (e.rd h)
  · exact .inr h
/-- the tuples are kept -/
def Tk (H H' : Hp) : Prop := ∀ a xs, Rd H a (.tup xs) → Rd H' a (.tup xs)
theorem Gr.tk {H H' : Hp} (e : Gr H H') : Tk H H' := fun _ _ h => e.rd h
theorem Tk.trans {H H1 H2 : Hp} (a : Tk H H1) (b : Tk H1 H2) : Tk H H2 := fun c o h => b c o (a c o h)
theorem Tk.sqT {K : PySem.W.Frag} {H H' : Hp} {a : Addr} {xs : List V} (e : Tk H H') (h : SqT K H a xs) : SqT K H' a xs := by
  rcases h with h | h
  · exact .inl (e _ _ h)
  · exact .inr h
/-- no tuple -/
def NoT : HO → Prop
  | .lst _ => True
  | .ext _ => True
  | _ => False
def hid (O : List Addr) (H : Hp) : Hp := fun a => if a ∈ O then none else H a
theorem hid_nil (H : Hp) : hid [] H = H := by funext a; simp [hid]
theorem hid_in {O : List Addr} {H : Hp} {a : Addr} (h : a ∈ O) : hid O H a = none := by simp [hid, h]
theorem hid_out {O : List Addr} {H : Hp} {a : Addr} (h : a ∉ O) : hid O H a = H a := by simp [hid, h]
theorem hid_le (O : List Addr) (H : Hp) : Gr (hid O H) H := fun a o h => by
  unfold hid at h
  split at h
  · cases h
  · exact h
theorem hid_gr {O : List Addr} {H H' : Hp} (e : Gr H H') : Gr (hid O H) (hid O H') := fun a o h => by
  unfold hid at h ⊢
  split at h
  · cases h
  · rename_i hn
    rw [if_neg hn]
    exact e a o h
/-- hiding fewer -/
theorem hid_less {O O' : List Addr} (H : Hp) (h : ∀ a, a ∈ O' → a ∈ O) : Gr (hid O H) (hid O' H) := fun a o q => by
  unfold hid at q ⊢
  split at q
  · cases q
  · rename_i hn
    rw [if_neg fun z => hn (h a z)]
    exact q
/-- what is hidden may change -/
theorem hid_upd {O : List Addr} {H : Hp} {a : Addr} {o : HO} (h : a ∈ O) : hid O (upd H a o) = hid O H := by
  funext b
  unfold hid
  split
  · rfl
  · rename_i hn
    exact upd_ne fun e => hn (e ▸ h)
theorem hid_cons_new {O : List Addr} {H : Hp} {p : Addr} {o : HO} (h : H p = none) : hid (p :: O) (upd H p o) = hid O H := by
  funext b
  unfold hid
  by_cases hb : b = p
  · subst hb
    rw [if_pos (by simp)]
    split
    · rfl
    · exact h.symm
  · rw [upd_ne hb]
    by_cases hm : b ∈ O
    · rw [if_pos (by simp [hm]), if_pos hm]
    · rw [if_neg (by simp [hm, hb]), if_neg hm]
theorem hid_tk {O : List Addr} {H : Hp} (h : ∀ a, a ∈ O → ∃ o, H a = some o ∧ NoT o) : Tk H (hid O H) := fun a xs q => by
  have hn : a ∉ O := fun z => by
    obtain ⟨o, e, n⟩ := h a z
    rcases q with q | ⟨ob, q⟩
    · rw [q] at e; cases e; exact n
    · rw [q] at e; cases e; exact n
  rcases q with q | ⟨ob, q⟩
  · exact .inl ((hid_out hn).trans q)
  · exact .inr ⟨ob, (hid_out hn).trans q⟩

/-! ### data in the heap -/
section
variable {K : PySem.W.Frag} {H H' : Hp}
mutual
theorem dp_gr (e : Gr H H') : ∀ (d : PyData) (v : V), Dp K H v d → Dp K H' v d
  | .none, _, h => by cases h; exact .non
  | .bool _, _, h => by cases h; exact .bl _
  | .int _, _, h => by cases h; exact .int _
  | .str _, _, h => by cases h; exact .str _
  | .list ds, _, h => by
    cases h with
    | lst h1 h2 => exact .lst (e.sqL h1) (dps_gr e ds _ h2)
  | .tuple ds, _, h => by
    cases h with
    | tup h1 h2 => exact .tup (e.sqT h1) (dps_gr e ds _ h2)
  | .dict _, _, h => by cases h
theorem dps_gr (e : Gr H H') : ∀ (ds : List PyData) (vs : List V), DpAll K H vs ds → DpAll K H' vs ds
  | [], _, h => by cases h; exact .nil
  | d :: ds, _, h => by
    cases h with
    | cons h1 h2 => exact .cons (dp_gr e d _ h1) (dps_gr e ds _ h2)
end
mutual
theorem dp_tk (e : Tk H H') : ∀ (d : PyData) (v : V), im d = true → Dp K H v d → Dp K H' v d
  | .none, _, _, h => by cases h; exact .non
  | .bool _, _, _, h => by cases h; exact .bl _
  | .int _, _, _, h => by cases h; exact .int _
  | .str _, _, _, h => by cases h; exact .str _
  | .list ds, _, i, _ => by simp [im] at i
  | .tuple ds, _, i, h => by
    cases h with
    | tup h1 h2 => exact .tup (e.sqT h1) (dps_tk e ds _ (by simpa [im] using i) h2)
  | .dict _, _, _, h => by cases h
theorem dps_tk (e : Tk H H') : ∀ (ds : List PyData) (vs : List V), ims ds = true → DpAll K H vs ds → DpAll K H' vs ds
  | [], _, _, h => by cases h; exact .nil
  | d :: ds, _, i, h => by
    simp only [ims, Bool.and_eq_true] at i
    cases h with
    | cons h1 h2 => exact .cons (dp_tk e d _ i.1 h1) (dps_tk e ds _ i.2 h2)
end
theorem dps_len : ∀ {ds : List PyData} {vs : List V}, DpAll K H vs ds → vs.length = ds.length
  | [], _, h => by cases h; rfl
  | d :: ds, _, h => by
    cases h with
    | cons h1 h2 => simp [dps_len h2]
theorem dps_get : ∀ {ds : List PyData} {vs : List V} {i : Nat} {v : V}, DpAll K H vs ds → vs[i]? = some v → ∃ d, ds[i]? = some d ∧ Dp K H v d
  | [], _, _, _, h, e => by cases h; simp at e
  | d :: ds, _, 0, v, h, e => by
    cases h with
    | cons h1 h2 => simp at e; subst e; exact ⟨d, rfl, h1⟩
  | d :: ds, _, i + 1, v, h, e => by
    cases h with
    | cons h1 h2 => exact dps_get (i := i) h2 (by simpa using e)
theorem dps_get' : ∀ {ds : List PyData} {vs : List V} {i : Nat} {d : PyData}, DpAll K H vs ds → ds[i]? = some d → ∃ v, vs[i]? = some v ∧ Dp K H v d
  | [], _, _, _, h, e => by simp at e
  | d :: ds, _, 0, v, h, e => by
    cases h with
    | cons h1 h2 => simp at e; subst e; exact ⟨_, rfl, h1⟩
  | d :: ds, _, i + 1, v, h, e => by
    cases h with
    | cons h1 h2 => exact dps_get' (i := i) h2 (by simpa using e)
theorem dps_append : ∀ {ds es : List PyData} {vs ws : List V}, DpAll K H vs ds → DpAll K H ws es → DpAll K H (vs ++ ws) (ds ++ es)
  | [], _, _, _, h, k => by cases h; exact k
  | d :: ds, _, _, _, h, k => by
    cases h with
    | cons h1 h2 => exact .cons h1 (dps_append h2 k)
theorem dps_one {v : V} {d : PyData} (h : Dp K H v d) : DpAll K H [v] [d] := .cons h .nil
theorem dps_take : ∀ {ds : List PyData} {vs : List V} (n : Nat), DpAll K H vs ds → DpAll K H (vs.take n) (ds.take n)
  | [], _, _, h => by cases h; simp; exact .nil
  | d :: ds, _, 0, h => by simp; exact .nil
  | d :: ds, _, n + 1, h => by
    cases h with
    | cons h1 h2 => exact .cons h1 (dps_take n h2)
theorem dps_drop : ∀ {ds : List PyData} {vs : List V} (n : Nat), DpAll K H vs ds → DpAll K H (vs.drop n) (ds.drop n)
  | [], _, _, h => by cases h; simp; exact .nil
  | d :: ds, _, 0, h => by simpa using h
  | d :: ds, _, n + 1, h => by
    cases h with
    | cons h1 h2 => exact dps_drop n h2
theorem dps_reverse {ds : List PyData} : ∀ {vs : List V}, DpAll K H vs ds → DpAll K H vs.reverse ds.reverse := by
  induction ds with
  | nil => intro vs h; cases h; exact .nil
  | cons d ds ih =>
    intro vs h
    cases h with
    | cons h1 h2 =>
      rw [List.reverse_cons, List.reverse_cons]
      exact dps_append (ih h2) (dps_one h1)
theorem dps_map {α : Type} (f : α → V) (g : α → PyData) : ∀ {xs : List α}, (∀ x, x ∈ xs → Dp K H (f x) (g x)) → DpAll K H (xs.map f) (xs.map g)
  | [], _ => .nil
  | x :: xs, h => .cons (h x List.mem_cons_self) (dps_map f g fun y hy => h y (List.mem_cons_of_mem _ hy))
theorem dp_int {v : V} {i : Int} (h : Dp K H v (.int i)) : v = .int i := by cases h; rfl
theorem dp_bl {v : V} {b : Bool} (h : Dp K H v (.bool b)) : v = .bl b := by cases h; rfl
theorem dp_tup {v : V} {ds : List PyData} (h : Dp K H v (.tuple ds)) : ∃ a xs, v = .ref a ∧ SqT K H a xs ∧ DpAll K H xs ds := by
  cases h with
  | tup h1 h2 => exact ⟨_, _, rfl, h1, h2⟩
theorem dp_lst {v : V} {ds : List PyData} (h : Dp K H v (.list ds)) : ∃ a xs, v = .ref a ∧ SqL K H a xs ∧ DpAll K H xs ds := by
  cases h with
  | lst h1 h2 => exact ⟨_, _, rfl, h1, h2⟩
end

/-! ### a dict with nested keys and ints -/
abbrev DEnt := NestedKey × Addr × Value
def DObj (P : Program) (w : World) (a : Addr) (xs : List DEnt) (h : Heap) : Prop :=
  (a == sysModules) = false ∧ ∃ o es ep, h.get? a = some o ∧ o.ExactDict ∧ o.data = .dict es ep ∧ es.toList = xs.map (entryOfKey (nestedKind P w)) ∧ (xs.map (·.1)).Nodup
def DO (P : Program) (w : World) (a : Addr) (xs : List DEnt) : HO := .ext (DObj P w a xs)
/-- a row's data -/
abbrev Row := PySem.W.Tup Int
abbrev toD {α : Type} [DecidableEq α] [PySem.W.Datum α] (a : α) : PyData := PySem.W.Datum.toD a
abbrev encR (r : Row) : PyData := toD r
mutual
/-- data as a key -/
def kd : PyData → NestedKey
  | .int i => .num i
  | .tuple xs => .tup (kds xs)
  | _ => .none
def kds : List PyData → List NestedKey
  | [] => []
  | x :: xs => kd x :: kds xs
end
mutual
/-- ints and tuples of such -/
def ky : PyData → Bool
  | .int _ => true
  | .tuple xs => kys xs
  | _ => false
def kys : List PyData → Bool
  | [] => true
  | x :: xs => ky x && kys xs
end

/-- the surroundings of a def: the text, the written part, the classes -/
structure Gx where
  P : Program
  w : World
  K : PySem.W.Frag
  mg : Str → Option Value
  base : Heap
  CT : Addr
  CB : Addr

/-- what a slot may hold -/
inductive XD where
  | dat (d : PyData)
  | tab (rows : List Row)
  | bnd (ds : List PyData)
  | dic (kvs : List (NestedKey × Int))
  | bnds (bs : List (List PyData))
  /-- a new instance without fields: a Table or a Bound -/
  | new (b : Bool) (x dx : Addr)

def fRows (t : Addr) : List (Str × V) := putF "rows" (.ref t) []
def fTies (l : Addr) : List (Str × V) := putF "ties" (.ref l) []
def EntOk (K : PySem.W.Frag) (H : Hp) (kv : NestedKey × Int) (x : DEnt) : Prop := x.1 = kv.1 ∧ (∃ d, ky d = true ∧ kd d = kv.1 ∧ kv.1.depth ≤ 8 ∧ Dp K H (.ref x.2.1) d) ∧ ∃ t, x.2.2 = .int kv.2 t
def RepB (G : Gx) (H : Hp) (v : V) (ds : List PyData) : Prop := ∃ a dx l xs, v = .ref a ∧ H a = some (.ins G.CB dx (fTies l)) ∧ H l = some (.lst xs) ∧ DpAll G.K H xs ds
def Rep (G : Gx) (H : Hp) (v : V) : XD → Prop
  | .dat d => Dp G.K H v d
  | .tab rows => ∃ a dx t, v = .ref a ∧ H a = some (.ins G.CT dx (fRows t)) ∧ Dp G.K H (.ref t) (.tuple (rows.map encR)) ∧ ∃ ob u, H t = some (.frz ob u) ∧ ob.cls = .type "tuple" ∧ ob.dict = none
  | .bnd ds => RepB G H v ds
  | .dic kvs => ∃ a xs, v = .ref a ∧ H a = some (DO G.P G.w a xs) ∧ Paired (EntOk G.K H) kvs xs
  | .bnds bs => ∃ a vs, v = .ref a ∧ H a = some (.lst vs) ∧ Paired (fun v ds => RepB G H v ds) vs bs
  | .new b x dx => v = .ref x ∧ H x = some (.ins (if b then G.CT else G.CB) dx [])

section
variable {G : Gx} {H H' : Hp} {v : V}
theorem entOk_gr (e : Gr H H') {kv : NestedKey × Int} {x : DEnt} (h : EntOk G.K H kv x) : EntOk G.K H' kv x := by
  obtain ⟨h1, ⟨d, h2, h3, h4, h5⟩, h6⟩ := h
  exact ⟨h1, ⟨d, h2, h3, h4, dp_gr e d _ h5⟩, h6⟩
theorem repB_gr (e : Gr H H') {ds : List PyData} (h : RepB G H v ds) : RepB G H' v ds := by
  obtain ⟨a, dx, l, xs, e1, h1, h2, h3⟩ := h
  exact ⟨a, dx, l, xs, e1, e _ _ h1, e _ _ h2, dps_gr e ds _ h3⟩
theorem rep_gr (e : Gr H H') : ∀ {d : XD}, Rep G H v d → Rep G H' v d
  | .dat d, h => dp_gr e d v h
  | .tab rows, h => by
    obtain ⟨a, dx, t, e1, h1, h2, ob, u, h3, h4⟩ := h
    exact ⟨a, dx, t, e1, e _ _ h1, dp_gr e _ _ h2, ob, u, e _ _ h3, h4⟩
  | .bnd ds, h => repB_gr e h
  | .dic kvs, h => by
    obtain ⟨a, xs, e1, h1, h2⟩ := h
    exact ⟨a, xs, e1, e _ _ h1, Paired.mapP h2 fun _ _ q => entOk_gr e q⟩
  | .bnds bs, h => by
    obtain ⟨a, vs, e1, h1, h2⟩ := h
    exact ⟨a, vs, e1, e _ _ h1, Paired.mapP h2 fun _ _ q => repB_gr e q⟩
  | .new b x dx, h => ⟨h.1, e _ _ h.2⟩
/-- immutable -/
def imX : XD → Bool
  | .dat d => im d
  | _ => false
theorem rep_tk (e : Tk H H') : ∀ {d : XD}, imX d = true → Rep G H v d → Rep G H' v d
  | .dat d, i, h => dp_tk e d v i h
  | .tab _, i, _ => by simp [imX] at i
  | .bnd _, i, _ => by simp [imX] at i
  | .dic _, i, _ => by simp [imX] at i
  | .bnds _, i, _ => by simp [imX] at i
  | .new _ _ _, i, _ => by simp [imX] at i
end

/-! ### environments -/
inductive Slot where
  /-- data that nothing here changes -/
  | x (d : XD)
  /-- a list of one's own (immutable items) -/
  | own (ds : List PyData)
  /-- a dict of one's own -/
  | ownD (kvs : List (NestedKey × Int))
  /-- a list of Bounds of one's own -/
  | ownB (bs : List (List PyData))
def isOwn : Slot → Bool
  | .x _ => false
  | _ => true
/-- pu: no list or dict of one's own stands -/
structure DEnv where
  sl : List (Option Slot)
  pu : Bool

def SlotOk (G : Gx) (O : List Addr) (H : Hp) (v : V) : Slot → Prop
  | .x d => Rep G (hid O H) v d
  | .own ds => ims ds = true ∧ ∃ a xs, v = .ref a ∧ a ∈ O ∧ H a = some (.lst xs) ∧ DpAll G.K (hid O H) xs ds
  | .ownD kvs => ∃ a xs, v = .ref a ∧ a ∈ O ∧ H a = some (DO G.P G.w a xs) ∧ Paired (EntOk G.K (hid O H)) kvs xs
  | .ownB bs => ∃ a vs, v = .ref a ∧ a ∈ O ∧ H a = some (.lst vs) ∧ Paired (fun v b => RepB G (hid O H) v b) vs bs

structure Fit (G : Gx) (O : List Addr) (H : Hp) (σ : L2.St) (r : DEnv) : Prop where
  len : σ.length = r.sl.length
  at_ : ∀ (i : Nat) (s : Slot), r.sl[i]? = some (some s) → ∃ v, σ[i]? = some (some v) ∧ SlotOk G O H v s
  dis : ∀ (i j : Nat) (s t : Slot), r.sl[i]? = some (some s) → r.sl[j]? = some (some t) → isOwn s = true → isOwn t = true → i ≠ j → σ[i]? ≠ σ[j]?
  tr : ∀ a, a ∈ O → ∃ o, H a = some o ∧ NoT o
  pu : r.pu = true → O = []

section
variable {G : Gx} {O : List Addr} {H H' : Hp} {σ : L2.St} {r : DEnv} {v : V}
theorem slotOk_gr (e : Gr H H') : ∀ {s : Slot}, SlotOk G O H v s → SlotOk G O H' v s
  | .x d, h => rep_gr (hid_gr e) h
  | .own ds, h => by
    obtain ⟨i, a, xs, e1, h1, h2, h3⟩ := h
    exact ⟨i, a, xs, e1, h1, e _ _ h2, dps_gr (hid_gr e) ds _ h3⟩
  | .ownD kvs, h => by
    obtain ⟨a, xs, e1, h1, h2, h3⟩ := h
    exact ⟨a, xs, e1, h1, e _ _ h2, Paired.mapP h3 fun _ _ q => entOk_gr (hid_gr e) q⟩
  | .ownB bs, h => by
    obtain ⟨a, xs, e1, h1, h2, h3⟩ := h
    exact ⟨a, xs, e1, h1, e _ _ h2, Paired.mapP h3 fun _ _ q => repB_gr (hid_gr e) q⟩
theorem Fit.gr (f : Fit G O H σ r) (e : Gr H H') : Fit G O H' σ r where
  len := f.len
  at_ := fun i s h => by
    obtain ⟨v, e1, q⟩ := f.at_ i s h
    exact ⟨v, e1, slotOk_gr e q⟩
  dis := f.dis
  tr := fun a h => by
    obtain ⟨o, e1, n⟩ := f.tr a h
    exact ⟨o, e a o e1, n⟩
  pu := f.pu
theorem Fit.tk (f : Fit G O H σ r) : Tk H (hid O H) := hid_tk f.tr
theorem Fit.tk' (f : Fit G O H σ r) (e : Gr H H') : Tk H' (hid O H') := hid_tk (f.gr e).tr
/-- a strong result is weak -/
theorem rep_hid {d : XD} (h : Rep G (hid O H) v d) : Rep G H v d := rep_gr (hid_le O H) h
/-- what a slot holds, as it stands in the heap -/
def slotX : Slot → XD
  | .x d => d
  | .own ds => .dat (.list ds)
  | .ownD kvs => .dic kvs
  | .ownB bs => .bnds bs
theorem slot_rep : ∀ {s : Slot}, SlotOk G O H v s → Rep G H v (slotX s)
  | .x d, h => rep_hid h
  | .own ds, h => by
    obtain ⟨i, a, xs, e1, h1, h2, h3⟩ := h
    subst e1
    exact .lst (.of h2) (dps_gr (hid_le O H) ds _ h3)
  | .ownD kvs, h => by
    obtain ⟨a, xs, e1, h1, h2, h3⟩ := h
    exact ⟨a, xs, e1, h2, Paired.mapP h3 fun _ _ q => entOk_gr (hid_le O H) q⟩
  | .ownB bs, h => by
    obtain ⟨a, xs, e1, h1, h2, h3⟩ := h
    exact ⟨a, xs, e1, h2, Paired.mapP h3 fun _ _ q => repB_gr (hid_le O H) q⟩
end

/-! ### readings by data -/
/-- it gives a value that stands for d -/
def tW (G : Gx) (r : DEnv) (d : XD) : TE := fun σ H Q => ∃ O, Fit G O H σ r ∧ ∀ v H', Gr H H' → Rep G H' v d → Q v H'
/-- .. without leaning on what is one's own -/
def tE (G : Gx) (r : DEnv) (d : XD) : TE := fun σ H Q => ∃ O, Fit G O H σ r ∧ ∀ v H', Gr H H' → Rep G (hid O H') v d → Q v H'
/-- a new list of immutable items -/
def tN (G : Gx) (r : DEnv) (ds : List PyData) : TE := fun σ H Q => ∃ O, Fit G O H σ r ∧ ∀ p xs H', H p = none → Gr H H' → H' p = some (.lst xs) → DpAll G.K H' xs ds → Q (.ref p) H'
def tT (G : Gx) (r : DEnv) (b : Bool) : TT := fun σ H Q => ∃ O, Fit G O H σ r ∧ ∀ H', Gr H H' → Q b H'
def RepAll (G : Gx) (H : Hp) : List V → List XD → Prop := Paired (fun v d => Rep G H v d)
def tA (G : Gx) (r : DEnv) (ds : List XD) : TA := fun σ H Q => ∃ O, Fit G O H σ r ∧ ∀ vs H', Gr H H' → RepAll G H' vs ds → Q vs H'

section
variable {X : Cx} {e : Expr}
theorem lift {t t' : TE} (h : PE X e t) (k : ∀ σ H Q, t' σ H Q → t σ H Q) : PE X e t' := ⟨fun pins s σ H Q I q => h.run pins s σ H Q I (k _ _ _ q)⟩
theorem liftT {t t' : TT} (h : PT X e t) (k : ∀ σ H Q, t' σ H Q → t σ H Q) : PT X e t' := ⟨fun pins s σ H Q I q => h.run pins s σ H Q I (k _ _ _ q)⟩
theorem liftA {es : List Expr} {t t' : TA} (h : PA X es t) (k : ∀ σ H Q, t' σ H Q → t σ H Q) : PA X es t' := ⟨fun pos pins s σ H Q I q => h.run pos pins s σ H Q I (k _ _ _ q)⟩
end
abbrev DW (G : Gx) (X : Cx) (e : Expr) (r : DEnv) (d : XD) : Prop := PE X e (tW G r d)
abbrev DE (G : Gx) (X : Cx) (e : Expr) (r : DEnv) (d : XD) : Prop := PE X e (tE G r d)
abbrev DN (G : Gx) (X : Cx) (e : Expr) (r : DEnv) (ds : List PyData) : Prop := ims ds = true ∧ PE X e (tN G r ds)
abbrev DT (G : Gx) (X : Cx) (e : Expr) (r : DEnv) (b : Bool) : Prop := PT X e (tT G r b)
abbrev DA (G : Gx) (X : Cx) (es : List Expr) (r : DEnv) (ds : List XD) : Prop := PA X es (tA G r ds)

section
variable {G : Gx} {X : Cx} {e : Expr} {r : DEnv} {d : XD}
theorem de_w (h : DE G X e r d) : DW G X e r d := lift h fun σ H Q ⟨O, f, q⟩ => ⟨O, f, fun v H' e1 q1 => q v H' e1 (rep_hid q1)⟩
/-- immutable data lean on nothing -/
theorem de_im (h : DW G X e r d) (i : imX d = true) : DE G X e r d := lift h fun σ H Q ⟨O, f, q⟩ => ⟨O, f, fun v H' e1 q1 => q v H' e1 (rep_tk (f.tk' e1) i q1)⟩
theorem de_pu (h : DW G X e r d) (i : r.pu = true) : DE G X e r d := lift h fun σ H Q ⟨O, f, q⟩ => ⟨O, f, fun v H' e1 q1 => q v H' e1 (by rw [f.pu i, hid_nil]; exact q1)⟩
theorem dn_e {ds : List PyData} (h : DN G X e r ds) : DE G X e r (.dat (.list ds)) := lift h.2 fun σ H Q ⟨O, f, q⟩ => ⟨O, f, fun p xs H' n e1 e2 q1 => q (.ref p) H' e1 (by
  have hp : p ∉ O := fun z => by
    obtain ⟨o, e3, _⟩ := f.tr p z
    rw [n] at e3; cases e3
  exact .lst (.of ((hid_out hp).trans e2)) (dps_tk (f.tk' e1) ds _ h.1 q1))⟩
theorem dn_w {ds : List PyData} (h : DN G X e r ds) : DW G X e r (.dat (.list ds)) := de_w (dn_e h)
end
end RC

/-! RcB: rules for expressions, by data. -/
namespace RC
open PySem L2
open PySem.W (Datum DatumOrd Tup T3 Holds HoldAll)

/-- values without lists -/
class Imm (α : Type) [DecidableEq α] [Datum α] : Prop where
  imm : ∀ a : α, im (toD a) = true
instance : Imm Int := ⟨fun _ => rfl⟩
instance : Imm Bool := ⟨fun _ => rfl⟩
section
variable {α β γ : Type} [DecidableEq α] [Datum α] [Imm α] [DecidableEq β] [Datum β] [Imm β] [DecidableEq γ] [Datum γ] [Imm γ]
instance : Imm (Tup α) := ⟨fun a => by
  show im (.tuple (a.items.map Datum.toD)) = true
  simp only [im]
  exact ims_map (fun x => Imm.imm x) _⟩
instance : Imm (α × β) := ⟨fun a => by
  show im (.tuple [Datum.toD a.1, Datum.toD a.2]) = true
  have h1 : im (Datum.toD a.1) = true := Imm.imm a.1
  have h2 : im (Datum.toD a.2) = true := Imm.imm a.2
  simp only [im, ims, h1, h2, Bool.and_self]⟩
instance : Imm (T3 α β γ) := ⟨fun a => by
  show im (.tuple [Datum.toD a.a, Datum.toD a.b, Datum.toD a.c]) = true
  have h1 : im (Datum.toD a.a) = true := Imm.imm a.a
  have h2 : im (Datum.toD a.b) = true := Imm.imm a.b
  have h3 : im (Datum.toD a.c) = true := Imm.imm a.c
  simp only [im, ims, h1, h2, h3, Bool.and_self]⟩
end
/-- a typed datum in a slot -/
abbrev D {α : Type} [DecidableEq α] [Datum α] (a : α) : XD := .dat (Datum.toD a)
abbrev Ds {α : Type} [DecidableEq α] [Datum α] (xs : List α) : List PyData := xs.map Datum.toD
theorem imD {α : Type} [DecidableEq α] [Datum α] [Imm α] (a : α) : imX (D a) = true := Imm.imm a
theorem imsD {α : Type} [DecidableEq α] [Datum α] [Imm α] (xs : List α) : ims (Ds xs) = true := ims_map (fun a => Imm.imm a) xs

/-- what isinstance asks of an own class -/
structure IsF (K : PySem.W.Frag) (C : Addr) : Prop where
  ha : PySem.W.findIn K (.ref C) "__class__" = some (some (.builtin "object.__class__"))
  hn : PySem.W.specialIn K (.builtin "object.__class__") "__get__" = some (some (.builtin "getset_descriptor.__get__"))
  htk : PySem.W.takesIn K (.builtin "object.__class__") = some true
  hm : PySem.W.mroIn K C (.type "object") = some true
/-- what the top has written, as far as the defs lean on it -/
structure Glob (G : Gx) : Prop where
  len : G.mg "len" = none
  sum : G.mg "sum" = none
  all : G.mg "all" = none
  any : G.mg "any" = none
  sorted : G.mg "sorted" = none
  min : G.mg "min" = none
  max : G.mg "max" = none
  zip : G.mg "zip" = none
  enumerate : G.mg "enumerate" = none
  range : G.mg "range" = none
  tuple : G.mg "tuple" = none
  list : G.mg "list" = none
  set : G.mg "set" = none
  int : G.mg "int" = none
  bool : G.mg "bool" = none
  isinstance : G.mg "isinstance" = none
  table : G.mg "Table" = some (.ref G.CT)
  bound : G.mg "Bound" = some (.ref G.CB)
  clT : Cls G.K G.CT
  clB : Cls G.K G.CB
  naT : NoAttr G.K G.CT "rows"
  naB : NoAttr G.K G.CB "ties"
  isT : PySem.W.keepIn G.K (.ref G.CT) = true
  isB : PySem.W.keepIn G.K (.ref G.CB) = true
  isfT : IsF G.K G.CT
  isfB : IsF G.K G.CB

class On (G : Gx) (X : Cx) (lv : outParam Nat) : Prop where
  eq : ∃ CT CB, G = ⟨X.prog, X.w, X.K, X.mg, X.base, CT, CB⟩
  calm : X.calm = true
  room : Room lv X.A
  nd : X.N.Nodup
  gl : Glob G
instance {G : Gx} {X : Cx} {lv : Nat} [o : On G X lv] {s : Shared} {H : Hp} {scope : Scope} {cenv : Env} {fp : List Addr} : On G (X.blk s H scope cenv fp) lv :=
  ⟨o.eq, o.calm, o.room, o.nd, o.gl⟩

section
variable {G : Gx} {X : Cx} {lv : Nat} {r : DEnv} {e e1 e2 a b c : Expr} {pos p : Pos} {d d1 d2 : XD}

/-! ### names and constants -/
theorem dw_var [o : On G X lv] (i : Nat) {s : Slot} {x : Str} (hs : r.sl[i]? = some (some s) := by rfl) (hN : X.N[i]? = some x := by rfl) (hv : Vis X.env.scope x := by first | exact Or.inl rfl | exact Or.inr (Or.inl rfl) | exact Or.inr (Or.inr rfl))
    (hd : (x == ("__debug__" : Str)) = false := by decide) (hcd : (x == ("__classdict__" : Str)) = false := by decide) : DW G X (.Name x pos) r (slotX s) :=
  lift (pe_var hN hv hd hcd) fun σ H Q ⟨O, f, q⟩ => by
    obtain ⟨v, e1, h⟩ := f.at_ i s hs
    exact ⟨v, e1, q v H (Gr.refl H) (slot_rep h)⟩
theorem dv [o : On G X lv] (i : Nat) {x : Str} (hs : r.sl[i]? = some (some (.x d)) := by rfl) (hN : X.N[i]? = some x := by rfl) (hv : Vis X.env.scope x := by first | exact Or.inl rfl | exact Or.inr (Or.inl rfl) | exact Or.inr (Or.inr rfl))
    (hd : (x == ("__debug__" : Str)) = false := by decide) (hcd : (x == ("__classdict__" : Str)) = false := by decide) : DE G X (.Name x pos) r d :=
  lift (pe_var hN hv hd hcd) fun σ H Q ⟨O, f, q⟩ => by
    obtain ⟨v, e1, h⟩ := f.at_ i (.x d) hs
    exact ⟨v, e1, q v H (Gr.refl H) h⟩
/-- the same as a weak one -/
theorem dv' [o : On G X lv] (i : Nat) {x : Str} (hs : r.sl[i]? = some (some (.x d)) := by rfl) (hN : X.N[i]? = some x := by rfl) (hv : Vis X.env.scope x := by first | exact Or.inl rfl | exact Or.inr (Or.inl rfl) | exact Or.inr (Or.inr rfl))
    (hd : (x == ("__debug__" : Str)) = false := by decide) (hcd : (x == ("__classdict__" : Str)) = false := by decide) : DW G X (.Name x pos) r d := de_w (dv (o := o) i hs hN hv hd hcd)
theorem tc_lift {v : V} (h : PE X e (tC v)) (q : ∀ H, Rep G H v d) : DW G X e r d := lift h fun σ H Q ⟨O, f, k⟩ => k v H (Gr.refl H) (q H)
theorem dc_int {i : Int} {j : Nat} : DW G X (.Constant (.int i) j pos) r (.dat (.int i)) := tc_lift pe_int fun _ => .int i
theorem dc_bl {i : Bool} {j : Nat} : DW G X (.Constant (.bool i) j pos) r (.dat (.bool i)) := tc_lift pe_bl fun _ => .bl i
theorem dc_non {j : Nat} : DW G X (.Constant .none j pos) r (.dat .none) := tc_lift pe_non fun _ => .non
/-- a module's whole number -/
theorem dg_int {x : Str} {i : Int} {t : Tok} (hg : Gl X x) (hm : X.mg x = some (.int i t)) (hd : (x == ("__debug__" : Str)) = false := by decide) : DW G X (.Name x pos) r (.dat (.int i)) :=
  tc_lift (pe_glob (v := .int i) hg hm ⟨t, rfl⟩ hd) fun _ => .int i

/-! ### two-place operations -/
/-- what an operation's reading asks, by data -/
def R2D (G : Gx) (q : R2) (d1 d2 d : XD) : Prop := ∀ H x y, Rep G H x d1 → Rep G H y d2 → ∀ Q : VK, (∀ v H', Gr H H' → Rep G H' v d → Q v H') → q x y H Q
/-- a new list -/
def R2N (G : Gx) (q : R2) (d1 d2 : XD) (ds : List PyData) : Prop := ∀ H x y, Rep G H x d1 → Rep G H y d2 → ∀ Q : VK, (∀ p xs H', H p = none → Gr H H' → H' p = some (.lst xs) → DpAll G.K H' xs ds → Q (.ref p) H') → q x y H Q
theorem op_lift {q : R2} (ha : DW G X a r d1) (hb : DW G X b r d2) (hr : R2D G q d1 d2 d) : ∀ σ H Q, tW G r d σ H Q → tOp q (tW G r d1) (tW G r d2) σ H Q :=
  fun σ H Q ⟨O, f, k⟩ => ⟨O, f, fun x H1 g1 r1 => ⟨O, f.gr g1, fun y H2 g2 r2 => hr H2 x y (rep_gr g2 r1) r2 Q fun v H3 g3 r3 => k v H3 ((g1.trans g2).trans g3) r3⟩⟩
theorem op_liftN {q : R2} {ds : List PyData} (ha : DW G X a r d1) (hb : DW G X b r d2) (hr : R2N G q d1 d2 ds) : ∀ σ H Q, tN G r ds σ H Q → tOp q (tW G r d1) (tW G r d2) σ H Q :=
  fun σ H Q ⟨O, f, k⟩ => ⟨O, f, fun x H1 g1 r1 => ⟨O, f.gr g1, fun y H2 g2 r2 => hr H2 x y (rep_gr g2 r1) r2 Q fun p xs H3 n g3 e3 r3 => k p xs H3 ((g1.trans g2).back n) ((g1.trans g2).trans g3) e3 r3⟩⟩
theorem dw_bin {op : Operator} {q : R2} (ho : OpR X (binaryOp op) q) (ha : DW G X a r d1) (hb : DW G X b r d2) (hr : R2D G q d1 d2 d) : DW G X (.BinOp a op b pos) r d :=
  lift (pe_op ho ha hb) (op_lift ha hb hr)
theorem dn_bin {op : Operator} {q : R2} {ds : List PyData} (ho : OpR X (binaryOp op) q) (ha : DW G X a r d1) (hb : DW G X b r d2) (hr : R2N G q d1 d2 ds) (hi : ims ds = true) : DN G X (.BinOp a op b pos) r ds :=
  ⟨hi, lift (pe_op ho ha hb) (op_liftN ha hb hr)⟩
theorem dw_cmp {op : CmpOp} {q : R2} (ho : OpR X (compareOp op) q) (ha : DW G X a r d1) (hb : DW G X b r d2) (hr : R2D G q d1 d2 d) (hm : behindInMarks op b = false) : DW G X (.Compare a [op] [b] pos) r d :=
  lift (pe_cmpR ho ha hb hm) (op_lift ha hb hr)
theorem dw_ix {q : R2} (hr : IxR X q) (ha : DW G X a r d1) (hb : DW G X b r d2) (h : R2D G q d1 d2 d) (hs : PlainIx b) : DW G X (.Subscript a b pos) r d :=
  lift (pe_ix hr ha hb hs) (op_lift ha hb h)
/-- a test: an expression that gives a truth value -/
theorem dt_val {k : Bool} (h : DW G X e r (.dat (.bool k))) (he : ∀ whole, isTrue e X.env whole = (do let v ← whole; standAt e.pos; holding [v] (truthy v)) := by intro _; rfl) : DT G X e r k :=
  liftT (pt_val h he) fun σ H Q ⟨O, f, q⟩ => ⟨O, f, fun v H' g1 q1 => ⟨k, dp_bl q1, q H' g1⟩⟩
theorem dt_cmp {op : CmpOp} {q : R2} {k : Bool} (ho : OpR X (compareOp op) q) (ha : DW G X a r d1) (hb : DW G X b r d2) (hr : R2D G q d1 d2 (.dat (.bool k))) (hm : behindInMarks op b = false) : DT G X (.Compare a [op] [b] pos) r k :=
  liftT (pt_cmpR ho ha hb hm) fun σ H Q ⟨O, f, q'⟩ => op_lift ha hb hr σ H _ ⟨O, f, fun v H' g1 q1 => ⟨k, dp_bl q1, q' H' g1⟩⟩

theorem r2_I0 {g : Int → Int → Int} {i j : Int} : R2D G (rI0 fun i j => .int (g i j)) (.dat (.int i)) (.dat (.int j)) (.dat (.int (g i j))) := fun H x y hx hy Q k =>
  ⟨i, j, dp_int hx, dp_int hy, k _ H (Gr.refl H) (.int _)⟩
theorem r2_I {C : Int → Int → Prop} {g : Int → Int → Int} {i j : Int} (hc : C i j) : R2D G (rI C fun i j => .int (g i j)) (.dat (.int i)) (.dat (.int j)) (.dat (.int (g i j))) := fun H x y hx hy Q k =>
  ⟨i, j, dp_int hx, dp_int hy, hc, k _ H (Gr.refl H) (.int _)⟩
theorem r2_B0 {g : Int → Int → Bool} {i j : Int} : R2D G (rI0 fun i j => .bl (g i j)) (.dat (.int i)) (.dat (.int j)) (.dat (.bool (g i j))) := fun H x y hx hy Q k =>
  ⟨i, j, dp_int hx, dp_int hy, k _ H (Gr.refl H) (.bl _)⟩
section
variable {i j : Int}
theorem dw_add (ha : DW G X a r (.dat (.int i))) (hb : DW G X b r (.dat (.int j))) : DW G X (.BinOp a .Add b pos) r (.dat (.int (i + j))) := dw_bin op_add ha hb (r2_I0 (g := fun i j => i + j))
theorem dw_sub (ha : DW G X a r (.dat (.int i))) (hb : DW G X b r (.dat (.int j))) : DW G X (.BinOp a .Sub b pos) r (.dat (.int (i - j))) := dw_bin op_sub ha hb (r2_I0 (g := fun i j => i - j))
theorem dw_mul (ha : DW G X a r (.dat (.int i))) (hb : DW G X b r (.dat (.int j))) (hc : CMul i j) : DW G X (.BinOp a .Mult b pos) r (.dat (.int (i * j))) := dw_bin op_mul ha hb (r2_I (g := fun i j => i * j) hc)
theorem dw_mod (ha : DW G X a r (.dat (.int i))) (hb : DW G X b r (.dat (.int j))) (hc : 0 < j) : DW G X (.BinOp a .Mod b pos) r (.dat (.int (i % j))) := dw_bin op_mod ha hb (r2_I (g := fun i j => i % j) hc)
theorem dw_fdiv (ha : DW G X a r (.dat (.int i))) (hb : DW G X b r (.dat (.int j))) (hc : CDiv i j) : DW G X (.BinOp a .FloorDiv b pos) r (.dat (.int (i / j))) := dw_bin op_fdiv ha hb (r2_I (g := fun i j => i / j) hc)
theorem dw_ltI (ha : DW G X a r (.dat (.int i))) (hb : DW G X b r (.dat (.int j))) : DW G X (.Compare a [.Lt] [b] pos) r (.dat (.bool (decide (i < j)))) := dw_cmp op_lt ha hb (r2_B0 (g := fun i j => decide (i < j))) (nomark _)
theorem dw_leI (ha : DW G X a r (.dat (.int i))) (hb : DW G X b r (.dat (.int j))) : DW G X (.Compare a [.LtE] [b] pos) r (.dat (.bool (decide (i ≤ j)))) := dw_cmp op_le ha hb (r2_B0 (g := fun i j => decide (i ≤ j))) (nomark _)
theorem dw_gtI (ha : DW G X a r (.dat (.int i))) (hb : DW G X b r (.dat (.int j))) : DW G X (.Compare a [.Gt] [b] pos) r (.dat (.bool (decide (j < i)))) := dw_cmp op_gt ha hb (r2_B0 (g := fun i j => decide (j < i))) (nomark _)
theorem dt_ltI (ha : DW G X a r (.dat (.int i))) (hb : DW G X b r (.dat (.int j))) : DT G X (.Compare a [.Lt] [b] pos) r (decide (i < j)) := dt_cmp op_lt ha hb (r2_B0 (g := fun i j => decide (i < j))) (nomark _)
theorem dt_gtI (ha : DW G X a r (.dat (.int i))) (hb : DW G X b r (.dat (.int j))) : DT G X (.Compare a [.Gt] [b] pos) r (decide (j < i)) := dt_cmp op_gt ha hb (r2_B0 (g := fun i j => decide (j < i))) (nomark _)
/-- a <= b <= c, whole numbers -/
theorem rI0_chain {g : Int → Int → Bool} {x y : V} {H : Hp} {Q : VK} {i j : Int} (hx : x = .int i) (hy : y = .int j) (q : Q (.bl (g i j)) H) : rI0 (fun i j => .bl (g i j)) x y H Q := ⟨i, j, hx, hy, q⟩
variable {k : Int}
theorem dw_chain (ha : DW G X a r (.dat (.int i))) (hb : DW G X b r (.dat (.int j))) (hc : DW G X c r (.dat (.int k))) (hm : lastMarks [.LtE, .LtE] [b, c] = false := by with_unfolding_all rfl) : DW G X (.Compare a [.LtE, .LtE] [b, c] pos) r (.dat (.bool (decide (i ≤ j) && decide (j ≤ k)))) :=
  lift (pe_chain op_le op_le ha hb hc hm) fun σ H Q ⟨O, f, q⟩ => ⟨O, f, fun x H1 g1 r1 => ⟨O, f.gr g1, fun y H2 g2 r2 => ⟨i, j, dp_int (rep_gr (d := .dat (.int i)) g2 r1), dp_int r2, decide (i ≤ j), rfl, by
    cases h : decide (i ≤ j) with
    | true =>
      refine iteT ⟨O, (f.gr g1).gr g2, fun z H3 g3 r3 => ⟨j, k, dp_int r2, dp_int r3, ?_⟩⟩
      rw [h] at q
      exact q _ H3 ((g1.trans g2).trans g3) (.bl _)
    | false =>
      refine iteF ?_
      rw [h] at q
      exact q _ H2 (g1.trans g2) (.bl _)⟩⟩⟩
theorem dt_chain (ha : DW G X a r (.dat (.int i))) (hb : DW G X b r (.dat (.int j))) (hc : DW G X c r (.dat (.int k))) (hm : lastMarks [.LtE, .LtE] [b, c] = false := by with_unfolding_all rfl) : DT G X (.Compare a [.LtE, .LtE] [b, c] pos) r (decide (i ≤ j) && decide (j ≤ k)) :=
  liftT (pt_chain op_le op_le ha hb hc hm) fun σ H Q ⟨O, f, q⟩ => ⟨O, f, fun x H1 g1 r1 => ⟨O, f.gr g1, fun y H2 g2 r2 => ⟨i, j, dp_int (rep_gr (d := .dat (.int i)) g2 r1), dp_int r2, decide (i ≤ j), rfl, by
    cases h : decide (i ≤ j) with
    | true =>
      refine iteT ⟨O, (f.gr g1).gr g2, fun z H3 g3 r3 => ⟨j, k, dp_int r2, dp_int r3, decide (j ≤ k), rfl, ?_⟩⟩
      rw [h] at q
      exact q H3 ((g1.trans g2).trans g3)
    | false =>
      refine iteF ?_
      rw [h] at q
      exact ⟨false, rfl, q H2 (g1.trans g2)⟩⟩⟩⟩
end
end
end RC

/-! RcC: typed comparisons, displays, built-ins. -/
namespace RC
open PySem L2
open PySem.W (Datum DatumOrd Tup T3 Holds HoldAll)

section
variable {X : Cx} {pins : List (Addr × Obj)} {σ : L2.St} {H : Hp} {s : Shared}
theorem holds_of {α : Type} [DecidableEq α] [Datum α] (I : Inv X pins σ H s) {v : V} {u : Value} {x : α} (h : Dp X.K H v (toD x)) (q : RelV v u) : Holds s.heap u x := Dp.reads I _ v u h q
theorem holdAll_of {α : Type} [DecidableEq α] [Datum α] (I : Inv X pins σ H s) {vs : List V} {us : List Value} {xs : List α} (h : DpAll X.K H vs (Ds xs)) (q : Vals vs us) : HoldAll s.heap us xs := Dp.readsAll I _ vs us h q
end

/-! ### comparisons of typed data -/
section
variable (K : PySem.W.Frag) (α : Type) [DecidableEq α]
def rEqA [Datum α] : R2 := fun x y H Q => ∃ a b : α, Dp K H x (toD a) ∧ Dp K H y (toD b) ∧ Q (.bl (decide (a = b))) H
def rNeA [Datum α] : R2 := fun x y H Q => ∃ a b : α, Dp K H x (toD a) ∧ Dp K H y (toD b) ∧ Q (.bl (decide (a ≠ b))) H
def rLtA [DatumOrd α] : R2 := fun x y H Q => ∃ a b : α, Dp K H x (toD a) ∧ Dp K H y (toD b) ∧ Q (.bl (DatumOrd.lt a b)) H
def rInL [Datum α] (n : Bool) : R2 := fun x y H Q => ∃ (a : α) (bs : List α), Dp K H x (toD a) ∧ Dp K H y (.list (Ds bs)) ∧ Q (.bl (if n then decide (a ∉ bs) else decide (a ∈ bs))) H
def rInT [Datum α] (n : Bool) : R2 := fun x y H Q => ∃ (a : α) (bs : List α), Dp K H x (toD a) ∧ Dp K H y (.tuple (Ds bs)) ∧ Q (.bl (if n then decide (a ∉ bs) else decide (a ∈ bs))) H
end
section
variable {X : Cx} {α : Type} [DecidableEq α]
theorem op_eqA [Datum α] (hu : X.A.units + Datum.depth α < cLine) : OpR X (compareOp .Eq) (rEqA X.K α) := by
  intro pins s σ H x y v u Q I rx ry h
  obtain ⟨a, b, ha, hb, q⟩ := h
  exact PySem.W.eq_datum (holds_of I ha rx) (holds_of I hb ry) hu ⟨.bl _, H, I, rfl, q⟩
theorem op_neA [Datum α] (hu : X.A.units + Datum.depth α < cLine) : OpR X (compareOp .NotEq) (rNeA X.K α) := by
  intro pins s σ H x y v u Q I rx ry h
  obtain ⟨a, b, ha, hb, q⟩ := h
  exact PySem.W.ne_datum (holds_of I ha rx) (holds_of I hb ry) hu ⟨.bl _, H, I, rfl, q⟩
theorem op_ltA [DatumOrd α] (hu : X.A.units + Datum.depth α < cLine) : OpR X (compareOp .Lt) (rLtA X.K α) := by
  intro pins s σ H x y v u Q I rx ry h
  obtain ⟨a, b, ha, hb, q⟩ := h
  exact PySem.W.lt_datum (holds_of I ha rx) (holds_of I hb ry) hu ⟨.bl _, H, I, rfl, q⟩
theorem op_inL [Datum α] (hu : X.A.units + 1 + Datum.depth α < cLine) : OpR X (compareOp .In) (rInL X.K α false) := by
  intro pins s σ H x y v u Q I rx ry h
  obtain ⟨a, bs, ha, hb, q⟩ := h
  obtain ⟨l, xs, rfl, hs, hd⟩ := dp_lst hb
  cases ry
  obtain ⟨its, rv, p, _⟩ := I.list hs
  exact PySem.W.in_list_datum p.isList (holdAll_of I hd rv) (holds_of I ha rx) hu ⟨.bl _, H, I, rfl, q⟩
theorem op_notInL [Datum α] (hu : X.A.units + 1 + Datum.depth α < cLine) : OpR X (compareOp .NotIn) (rInL X.K α true) := by
  intro pins s σ H x y v u Q I rx ry h
  obtain ⟨a, bs, ha, hb, q⟩ := h
  obtain ⟨l, xs, rfl, hs, hd⟩ := dp_lst hb
  cases ry
  obtain ⟨its, rv, p, _⟩ := I.list hs
  exact PySem.W.notIn_list_datum p.isList (holdAll_of I hd rv) (holds_of I ha rx) hu ⟨.bl _, H, I, rfl, q⟩
theorem isTup_is {h : Heap} {a : Addr} {vs : Array Value} (x : PyProof.Rows.IsTup h a vs) : h.IsTuple a vs := x
theorem op_inT [Datum α] (hu : X.A.units + 1 + Datum.depth α < cLine) : OpR X (compareOp .In) (rInT X.K α false) := by
  intro pins s σ H x y v u Q I rx ry h
  obtain ⟨a, bs, ha, hb, q⟩ := h
  obtain ⟨l, xs, rfl, hs, hd⟩ := dp_tup hb
  cases ry
  obtain ⟨its, rv, p, _⟩ := I.tuple hs
  exact PySem.W.in_tuple_datum (isTup_is p) (holdAll_of I hd rv) (holds_of I ha rx) hu ⟨.bl _, H, I, rfl, q⟩
theorem op_notInT [Datum α] (hu : X.A.units + 1 + Datum.depth α < cLine) : OpR X (compareOp .NotIn) (rInT X.K α true) := by
  intro pins s σ H x y v u Q I rx ry h
  obtain ⟨a, bs, ha, hb, q⟩ := h
  obtain ⟨l, xs, rfl, hs, hd⟩ := dp_tup hb
  cases ry
  obtain ⟨its, rv, p, _⟩ := I.tuple hs
  exact PySem.W.notIn_tuple_datum (isTup_is p) (holdAll_of I hd rv) (holds_of I ha rx) hu ⟨.bl _, H, I, rfl, q⟩
end

section
variable {G : Gx} {X : Cx} {lv : Nat} {r : DEnv} {e a b c : Expr} {es : List Expr} {pos p : Pos} {d d1 d2 : XD} {α β γ : Type} [DecidableEq α] [DecidableEq β] [DecidableEq γ]
theorem on_units [o : On G X lv] {n : Nat} (h : n ≤ 60) : X.A.units + 1 + n < cLine := by
  have := o.room.units
  omega
theorem on_units0 [o : On G X lv] {n : Nat} (h : n ≤ 60) : X.A.units + n < cLine := by
  have := o.room.units
  omega
theorem r2_eqA [o : On G X lv] [Datum α] {x y : α} : R2D G (rEqA X.K α) (D x) (D y) (.dat (.bool (decide (x = y)))) := by
  obtain ⟨⟨CT, CB, rfl⟩, _⟩ := o
  exact fun H v u hx hy Q k => ⟨x, y, hx, hy, k _ H (Gr.refl H) (.bl _)⟩
theorem r2_neA [o : On G X lv] [Datum α] {x y : α} : R2D G (rNeA X.K α) (D x) (D y) (.dat (.bool (decide (x ≠ y)))) := by
  obtain ⟨⟨CT, CB, rfl⟩, _⟩ := o
  exact fun H v u hx hy Q k => ⟨x, y, hx, hy, k _ H (Gr.refl H) (.bl _)⟩
theorem r2_ltA [o : On G X lv] [DatumOrd α] {x y : α} : R2D G (rLtA X.K α) (D x) (D y) (.dat (.bool (DatumOrd.lt x y))) := by
  obtain ⟨⟨CT, CB, rfl⟩, _⟩ := o
  exact fun H v u hx hy Q k => ⟨x, y, hx, hy, k _ H (Gr.refl H) (.bl _)⟩
theorem r2_inL [o : On G X lv] [Datum α] {n : Bool} {x : α} {ys : List α} : R2D G (rInL X.K α n) (D x) (D ys) (.dat (.bool (if n then decide (x ∉ ys) else decide (x ∈ ys)))) := by
  obtain ⟨⟨CT, CB, rfl⟩, _⟩ := o
  exact fun H v u hx hy Q k => ⟨x, ys, hx, hy, k _ H (Gr.refl H) (.bl _)⟩
theorem r2_inT [o : On G X lv] [Datum α] {n : Bool} {x : α} {ys : List α} : R2D G (rInT X.K α n) (D x) (D (Tup.mk ys)) (.dat (.bool (if n then decide (x ∉ ys) else decide (x ∈ ys)))) := by
  obtain ⟨⟨CT, CB, rfl⟩, _⟩ := o
  exact fun H v u hx hy Q k => ⟨x, ys, hx, hy, k _ H (Gr.refl H) (.bl _)⟩
section
variable [o : On G X lv] {x y : α}
include o
theorem dw_eq [Datum α] (ha : DW G X a r (D x)) (hb : DW G X b r (D y)) (hd : Datum.depth α ≤ 60 := by decide) : DW G X (.Compare a [.Eq] [b] pos) r (.dat (.bool (decide (x = y)))) := dw_cmp (op_eqA (on_units0 (G := G) hd)) ha hb r2_eqA (nomark _)
theorem dt_eq [Datum α] (ha : DW G X a r (D x)) (hb : DW G X b r (D y)) (hd : Datum.depth α ≤ 60 := by decide) : DT G X (.Compare a [.Eq] [b] pos) r (decide (x = y)) := dt_cmp (op_eqA (on_units0 (G := G) hd)) ha hb r2_eqA (nomark _)
theorem dw_ne [Datum α] (ha : DW G X a r (D x)) (hb : DW G X b r (D y)) (hd : Datum.depth α ≤ 60 := by decide) : DW G X (.Compare a [.NotEq] [b] pos) r (.dat (.bool (decide (x ≠ y)))) := dw_cmp (op_neA (on_units0 (G := G) hd)) ha hb r2_neA (nomark _)
theorem dt_ne [Datum α] (ha : DW G X a r (D x)) (hb : DW G X b r (D y)) (hd : Datum.depth α ≤ 60 := by decide) : DT G X (.Compare a [.NotEq] [b] pos) r (decide (x ≠ y)) := dt_cmp (op_neA (on_units0 (G := G) hd)) ha hb r2_neA (nomark _)
theorem dw_lt [DatumOrd α] (ha : DW G X a r (D x)) (hb : DW G X b r (D y)) (hd : Datum.depth α ≤ 60 := by decide) : DW G X (.Compare a [.Lt] [b] pos) r (.dat (.bool (DatumOrd.lt x y))) := dw_cmp (op_ltA (on_units0 (G := G) hd)) ha hb r2_ltA (nomark _)
theorem dt_lt [DatumOrd α] (ha : DW G X a r (D x)) (hb : DW G X b r (D y)) (hd : Datum.depth α ≤ 60 := by decide) : DT G X (.Compare a [.Lt] [b] pos) r (DatumOrd.lt x y) := dt_cmp (op_ltA (on_units0 (G := G) hd)) ha hb r2_ltA (nomark _)
variable {ys : List α}
theorem dw_inL [Datum α] (ha : DW G X a r (D x)) (hb : DW G X b r (D ys)) (hd : Datum.depth α ≤ 60 := by decide) (hm : behindInMarks .In b = false := by rfl) : DW G X (.Compare a [.In] [b] pos) r (.dat (.bool (decide (x ∈ ys)))) := dw_cmp (op_inL (on_units (G := G) hd)) ha hb r2_inL hm
theorem dt_inL [Datum α] (ha : DW G X a r (D x)) (hb : DW G X b r (D ys)) (hd : Datum.depth α ≤ 60 := by decide) (hm : behindInMarks .In b = false := by rfl) : DT G X (.Compare a [.In] [b] pos) r (decide (x ∈ ys)) := dt_cmp (op_inL (on_units (G := G) hd)) ha hb r2_inL hm
theorem dw_ninL [Datum α] (ha : DW G X a r (D x)) (hb : DW G X b r (D ys)) (hd : Datum.depth α ≤ 60 := by decide) (hm : behindInMarks .NotIn b = false := by rfl) : DW G X (.Compare a [.NotIn] [b] pos) r (.dat (.bool (decide (x ∉ ys)))) := dw_cmp (op_notInL (on_units (G := G) hd)) ha hb r2_inL hm
theorem dt_ninL [Datum α] (ha : DW G X a r (D x)) (hb : DW G X b r (D ys)) (hd : Datum.depth α ≤ 60 := by decide) (hm : behindInMarks .NotIn b = false := by rfl) : DT G X (.Compare a [.NotIn] [b] pos) r (decide (x ∉ ys)) := dt_cmp (op_notInL (on_units (G := G) hd)) ha hb r2_inL hm
theorem dw_inT [Datum α] (ha : DW G X a r (D x)) (hb : DW G X b r (D (Tup.mk ys))) (hd : Datum.depth α ≤ 60 := by decide) (hm : behindInMarks .In b = false := by rfl) : DW G X (.Compare a [.In] [b] pos) r (.dat (.bool (decide (x ∈ ys)))) := dw_cmp (op_inT (on_units (G := G) hd)) ha hb r2_inT hm
theorem dt_inT [Datum α] (ha : DW G X a r (D x)) (hb : DW G X b r (D (Tup.mk ys))) (hd : Datum.depth α ≤ 60 := by decide) (hm : behindInMarks .In b = false := by rfl) : DT G X (.Compare a [.In] [b] pos) r (decide (x ∈ ys)) := dt_cmp (op_inT (on_units (G := G) hd)) ha hb r2_inT hm
theorem dw_ninT [Datum α] (ha : DW G X a r (D x)) (hb : DW G X b r (D (Tup.mk ys))) (hd : Datum.depth α ≤ 60 := by decide) (hm : behindInMarks .NotIn b = false := by rfl) : DW G X (.Compare a [.NotIn] [b] pos) r (.dat (.bool (decide (x ∉ ys)))) := dw_cmp (op_notInT (on_units (G := G) hd)) ha hb r2_inT hm
theorem dt_ninT [Datum α] (ha : DW G X a r (D x)) (hb : DW G X b r (D (Tup.mk ys))) (hd : Datum.depth α ≤ 60 := by decide) (hm : behindInMarks .NotIn b = false := by rfl) : DT G X (.Compare a [.NotIn] [b] pos) r (decide (x ∉ ys)) := dt_cmp (op_notInT (on_units (G := G) hd)) ha hb r2_inT hm
end

/-! ### truth -/
section
variable {k l : Bool} {rest : List Expr}
theorem dt_and1 (h : DT G X a r k) : PW X (.BoolOp .And [a] pos) (tT G r k) := pw_and1 h
theorem dt_or1 (h : DT G X a r k) : PW X (.BoolOp .Or [a] pos) (tT G r k) := pw_or1 h
theorem liftW {t t' : TT} (h : PW X e t) (q : ∀ σ H Q, t' σ H Q → t σ H Q) : PW X e t' := ⟨fun wh pins s σ H Q I z => h.run wh pins s σ H Q I (q _ _ _ z)⟩
/-- the right side is asked where the left is true -/
theorem dt_and (h : DT G X a r k) (h2 : k = true → PW X (.BoolOp .And (b :: rest) pos) (tT G r l)) : PW X (.BoolOp .And (a :: b :: rest) pos) (tT G r (k && l)) := by
  cases k with
  | true =>
    exact liftW (pw_and h (h2 rfl)) fun σ H Q ⟨O, f, q⟩ => ⟨O, f, fun H1 g1 => iteT ⟨O, f.gr g1, fun H2 g2 => q H2 (g1.trans g2)⟩⟩
  | false =>
    have nv : PW X (.BoolOp .And (b :: rest) pos) (fun _ _ _ => False) := ⟨fun _ _ _ _ _ _ _ z => z.elim⟩
    exact liftW (pw_and h nv) fun σ H Q ⟨O, f, q⟩ => ⟨O, f, fun H1 g1 => iteF (q H1 g1)⟩
theorem dt_or (h : DT G X a r k) (h2 : k = false → PW X (.BoolOp .Or (b :: rest) pos) (tT G r l)) : PW X (.BoolOp .Or (a :: b :: rest) pos) (tT G r (k || l)) := by
  cases k with
  | false =>
    exact liftW (pw_or h (h2 rfl)) fun σ H Q ⟨O, f, q⟩ => ⟨O, f, fun H1 g1 => iteF ⟨O, f.gr g1, fun H2 g2 => q H2 (g1.trans g2)⟩⟩
  | true =>
    have nv : PW X (.BoolOp .Or (b :: rest) pos) (fun _ _ _ => False) := ⟨fun _ _ _ _ _ _ _ z => z.elim⟩
    exact liftW (pw_or h nv) fun σ H Q ⟨O, f, q⟩ => ⟨O, f, fun H1 g1 => iteT (q H1 g1)⟩
theorem dt_not (h : DT G X a r k) : DT G X (.UnaryOp .Not a pos) r (!k) := liftT (pt_not h) fun σ H Q ⟨O, f, q⟩ => ⟨O, f, fun H1 g1 => q H1 g1⟩
/-- as values -/
theorem dw_not (h : DW G X a r (.dat (.bool k))) : DW G X (.UnaryOp .Not a pos) r (.dat (.bool (!k))) := lift (pe_not h) fun σ H Q ⟨O, f, q⟩ => ⟨O, f, fun v H1 g1 r1 => ⟨k, dp_bl r1, q _ H1 g1 (.bl _)⟩⟩
theorem dw_one {op : BoolOp} (h : DW G X a r d) : DW G X (.BoolOp op [a] pos) r d := pe_one h
theorem dw_and (h : DW G X a r (.dat (.bool k))) (h2 : k = true → DW G X (.BoolOp .And (b :: rest) pos) r (.dat (.bool l))) : DW G X (.BoolOp .And (a :: b :: rest) pos) r (.dat (.bool (k && l))) := by
  cases k with
  | true =>
    exact lift (pe_and h (h2 rfl)) fun σ H Q ⟨O, f, q⟩ => ⟨O, f, fun v H1 g1 r1 => ⟨true, dp_bl r1, iteT ⟨O, f.gr g1, fun v H2 g2 r2 => q v H2 (g1.trans g2) r2⟩⟩⟩
  | false =>
    have nv : PE X (.BoolOp .And (b :: rest) pos) (fun _ _ _ => False) := ⟨fun _ _ _ _ _ _ z => z.elim⟩
    exact lift (pe_and h nv) fun σ H Q ⟨O, f, q⟩ => ⟨O, f, fun v H1 g1 r1 => ⟨false, dp_bl r1, iteF (q _ H1 g1 (.bl _))⟩⟩
theorem dw_or (h : DW G X a r (.dat (.bool k))) (h2 : k = false → DW G X (.BoolOp .Or (b :: rest) pos) r (.dat (.bool l))) : DW G X (.BoolOp .Or (a :: b :: rest) pos) r (.dat (.bool (k || l))) := by
  cases k with
  | false =>
    exact lift (pe_or h (h2 rfl)) fun σ H Q ⟨O, f, q⟩ => ⟨O, f, fun v H1 g1 r1 => ⟨false, dp_bl r1, iteF ⟨O, f.gr g1, fun v H2 g2 r2 => q v H2 (g1.trans g2) r2⟩⟩⟩
  | true =>
    have nv : PE X (.BoolOp .Or (b :: rest) pos) (fun _ _ _ => False) := ⟨fun _ _ _ _ _ _ z => z.elim⟩
    exact lift (pe_or h nv) fun σ H Q ⟨O, f, q⟩ => ⟨O, f, fun v H1 g1 r1 => ⟨true, dp_bl r1, iteT (q _ H1 g1 (.bl _))⟩⟩
/-- x if t else y -/
theorem dw_if (h : DT G X c r k) (h1 : k = true → DW G X a r d) (h2 : k = false → DW G X b r d) : DW G X (.IfExp c a b pos) r d := by
  cases k with
  | true =>
    have nv : PE X b (fun _ _ _ => False) := ⟨fun _ _ _ _ _ _ z => z.elim⟩
    exact lift (pe_ifExp h (h1 rfl) nv) fun σ H Q ⟨O, f, q⟩ => ⟨O, f, fun H1 g1 => iteT ⟨O, f.gr g1, fun v H2 g2 r2 => q v H2 (g1.trans g2) r2⟩⟩
  | false =>
    have nv : PE X a (fun _ _ _ => False) := ⟨fun _ _ _ _ _ _ z => z.elim⟩
    exact lift (pe_ifExp h nv (h2 rfl)) fun σ H Q ⟨O, f, q⟩ => ⟨O, f, fun H1 g1 => iteF ⟨O, f.gr g1, fun v H2 g2 r2 => q v H2 (g1.trans g2) r2⟩⟩
end

/-! ### arguments and displays -/
theorem da_nil : DA G X [] r [] := liftA pa_nil fun σ H Q ⟨O, f, q⟩ => q [] H (Gr.refl H) .nil
theorem da_cons {ds : List XD} (h : DW G X e r d) (t : DA G X es r ds) (hs : starEach (e :: es) X.env = (false, eval e X.env) :: starEach es X.env := by rfl) : DA G X (e :: es) r (d :: ds) :=
  liftA (pa_cons h t hs) fun σ H Q ⟨O, f, q⟩ => ⟨O, f, fun x H1 g1 r1 => ⟨O, f.gr g1, fun xs H2 g2 r2 => q (x :: xs) H2 (g1.trans g2) (.cons (rep_gr g2 r1) r2)⟩⟩
theorem da_one (h : DW G X e r d) (hs : starEach [e] X.env = [(false, eval e X.env)] := by rfl) : DA G X [e] r [d] := da_cons h da_nil hs
theorem repAll_dat {H : Hp} : ∀ {ds : List PyData} {vs : List V}, RepAll G H vs (ds.map XD.dat) → DpAll G.K H vs ds
  | [], _, h => by cases h; exact .nil
  | d :: ds, _, h => by
    cases h with
    | cons h1 h2 => exact .cons h1 (repAll_dat h2)
theorem dw_tupD {ds : List PyData} {k : Nat} (h : DA G X es r (ds.map XD.dat)) (hl : ds.length ≤ 1000 := by first | decide | simp) : DW G X (.Tuple es k pos) r (.dat (.tuple ds)) :=
  lift (pe_tup h) fun σ H Q ⟨O, f, q⟩ => ⟨O, f, fun vs H1 g1 r1 => by
    have h1 := repAll_dat r1
    refine ⟨by rw [dps_len h1]; exact Nat.le_of_lt (small1000 hl), fun p hp => q (.ref p) _ (g1.trans (Gr.new hp)) (.tup (.of upd_same) (dps_gr (Gr.new hp) ds _ h1))⟩⟩
theorem dw_pair [Datum α] [Datum β] {x : α} {y : β} {k : Nat} (ha : DW G X a r (D x)) (hb : DW G X b r (D y)) (hs : starEach [a, b] X.env = (false, eval a X.env) :: starEach [b] X.env := by rfl) (hs2 : starEach [b] X.env = [(false, eval b X.env)] := by rfl) :
    DW G X (.Tuple [a, b] k pos) r (D (x, y)) := dw_tupD (ds := [toD x, toD y]) (da_cons ha (da_one hb hs2) hs)
theorem dw_t3 [Datum α] [Datum β] [Datum γ] {x : α} {y : β} {z : γ} {k : Nat} (ha : DW G X a r (D x)) (hb : DW G X b r (D y)) (hc : DW G X c r (D z)) (hs : starEach [a, b, c] X.env = (false, eval a X.env) :: starEach [b, c] X.env := by rfl)
    (hs2 : starEach [b, c] X.env = (false, eval b X.env) :: starEach [c] X.env := by rfl) (hs3 : starEach [c] X.env = [(false, eval c X.env)] := by rfl) :
    DW G X (.Tuple [a, b, c] k pos) r (D (T3.mk x y z)) := dw_tupD (ds := [toD x, toD y, toD z]) (da_cons ha (da_cons hb (da_one hc hs3) hs2) hs)
/-- two of one kind, as a tuple of any length -/
theorem dw_tup2 [Datum α] {x y : α} {k : Nat} (ha : DW G X a r (D x)) (hb : DW G X b r (D y)) (hs : starEach [a, b] X.env = (false, eval a X.env) :: starEach [b] X.env := by rfl) (hs2 : starEach [b] X.env = [(false, eval b X.env)] := by rfl) :
    DW G X (.Tuple [a, b] k pos) r (D (Tup.mk [x, y])) := dw_tupD (ds := [toD x, toD y]) (da_cons ha (da_one hb hs2) hs)
theorem dw_tup1 [Datum α] {x : α} {k : Nat} (ha : DW G X a r (D x)) (hs2 : starEach [a] X.env = [(false, eval a X.env)] := by rfl) :
    DW G X (.Tuple [a] k pos) r (D (Tup.mk [x])) := dw_tupD (ds := [toD x]) (da_one ha hs2)
theorem dw_tup0 (α : Type) [DecidableEq α] [Datum α] {k : Nat} : DW G X (.Tuple [] k pos) r (D (Tup.mk ([] : List α))) := dw_tupD (ds := []) da_nil
theorem dn_lstD {ds : List PyData} (h : DA G X es r (ds.map XD.dat)) (hi : ims ds = true) (hl : ds.length ≤ 1000 := by first | decide | simp) : DN G X (.List es pos) r ds :=
  ⟨hi, lift (pe_lst h) fun σ H Q ⟨O, f, q⟩ => ⟨O, f, fun vs H1 g1 r1 => by
    have h1 := repAll_dat r1
    refine ⟨by rw [dps_len h1]; exact Nat.le_of_lt (small1000 hl), fun p hp => q p vs _ (g1.back hp) (g1.trans (Gr.new hp)) upd_same (dps_gr (Gr.new hp) ds _ h1)⟩⟩⟩
theorem dn_lst0 : DN G X (.List [] pos) r [] := dn_lstD (ds := []) da_nil rfl
theorem dn_lst1 [Datum α] [Imm α] {x : α} (ha : DW G X a r (D x)) (hs2 : starEach [a] X.env = [(false, eval a X.env)] := by rfl) : DN G X (.List [a] pos) r (Ds [x]) := dn_lstD (ds := Ds [x]) (da_one ha hs2) (imsD _)
end
end RC

/-! RcD: built-in functions by data: min, max, sorted, len, sum, all, any, list, tuple, int. -/
namespace RC
open PySem L2
open PySem.W (Datum DatumOrd Tup T3 Holds HoldAll minOf maxOf)

/-! ### min, max of two alike data -/
section
open PySem.W
variable {prog : Program} {w : World} {A : Around} {E : Value → Shared → Prop} {s : Shared}
theorem call_min_twoH {a b : Value} {Q : Value → Shared → Prop}
    (h : wpAny (model prog w) A.in1 (pyIter (.ref s.heap.objs.size)) (fun it s₂ => ∃ I fp wr G n P St H bt, it = .ref I ∧ WalksS prog w A.in1 I fp wr G n P St ∧ St 0 s₂ ∧ (∀ b ∈ fp, b < s₂.heap.objs.size) ∧ 0 < n ∧
      (∀ b o, H.get? b = some o → b ∉ wr) ∧ (∀ b o, H.get? b = some o → s₂.heap.get? b = some o) ∧ CmpIn prog w A.in1 .Lt H P bt ∧ ∀ v s', P (argBest bt (n - 1)) v → Moved wr G s₂ s' → Q v s') E
      { s with heap := s.heap.push { cls := .type "tuple", data := .seq #[a, b] } }) :
    wpAny (model prog w) A (call (.builtin "min") [a, b]) Q E s := by
  have hname : (toString "min" ++ toString ".loop" : String) = "min.loop" := by decide
  refine call_function_tree F.kind_min F.plain_min F.entry_min (F.args_min2 _ _) ?_
  show wpAny _ A.in1 (Builtin.Builtins.bindParams "min" ["key", "default"] 0 ⟨[], []⟩ >>= _) _ _ s
  refine wpAny_bind (wpAny_of_eq (show Builtin.Builtins.bindParams "min" ["key", "default"] 0 ⟨[], []⟩ = pure [none, none] from rfl) ?_)
  show wpAny _ A.in1 (newTuple [a, b] >>= _) _ _ s
  refine wpAny_bind (wpAny_newObj_type ?_)
  refine wpAny_bind (wpAny_mono h (fun it s₂ h₂ => ?_) fun _ _ e => e)
  obtain ⟨I, fp, wr, G, n, P, St, H, bt, rfl, W, hst, hfp, hn, hw, hkeep, hcmp, hQ⟩ := h₂
  refine wpAny_bind (wpAny_newObj_type ?_)
  have hSf : s₂.heap.objs.size ∉ fp := fun hm => Nat.lt_irrefl _ (hfp _ hm)
  rw [hname]
  refine wpAny_pure ⟨plainId_quiet F.plain_min_loop _, codeAny_min_loop_firstH W H hw bt hcmp s₂.heap.objs.size hSf (fresh_in hkeep) _ hn (fun b o e => Heap.get?_push_of_some _ (hkeep b o e)) (W.frame 0 s₂ _ s₂.toks hst (Nat.le_refl _) fun b _ o e => Heap.get?_push_of_some _ e) (Heap.get?_push_size _ rfl) fun v s' hP hm => ?_⟩
  exact hQ v s' hP (Moved.drop_new (tk := s₂.toks) hm (Nat.le_refl _))
theorem call_max_twoH {a b : Value} {Q : Value → Shared → Prop}
    (h : wpAny (model prog w) A.in1 (pyIter (.ref s.heap.objs.size)) (fun it s₂ => ∃ I fp wr G n P St H bt, it = .ref I ∧ WalksS prog w A.in1 I fp wr G n P St ∧ St 0 s₂ ∧ (∀ b ∈ fp, b < s₂.heap.objs.size) ∧ 0 < n ∧
      (∀ b o, H.get? b = some o → b ∉ wr) ∧ (∀ b o, H.get? b = some o → s₂.heap.get? b = some o) ∧ CmpIn prog w A.in1 .Gt H P bt ∧ ∀ v s', P (argBest bt (n - 1)) v → Moved wr G s₂ s' → Q v s') E
      { s with heap := s.heap.push { cls := .type "tuple", data := .seq #[a, b] } }) :
    wpAny (model prog w) A (call (.builtin "max") [a, b]) Q E s := by
  have hname : (toString "max" ++ toString ".loop" : String) = "max.loop" := by decide
  refine call_function_tree F.kind_max F.plain_max F.entry_max (F.args_max2 _ _) ?_
  show wpAny _ A.in1 (Builtin.Builtins.bindParams "max" ["key", "default"] 0 ⟨[], []⟩ >>= _) _ _ s
  refine wpAny_bind (wpAny_of_eq (show Builtin.Builtins.bindParams "max" ["key", "default"] 0 ⟨[], []⟩ = pure [none, none] from rfl) ?_)
  show wpAny _ A.in1 (newTuple [a, b] >>= _) _ _ s
  refine wpAny_bind (wpAny_newObj_type ?_)
  refine wpAny_bind (wpAny_mono h (fun it s₂ h₂ => ?_) fun _ _ e => e)
  obtain ⟨I, fp, wr, G, n, P, St, H, bt, rfl, W, hst, hfp, hn, hw, hkeep, hcmp, hQ⟩ := h₂
  refine wpAny_bind (wpAny_newObj_type ?_)
  have hSf : s₂.heap.objs.size ∉ fp := fun hm => Nat.lt_irrefl _ (hfp _ hm)
  rw [hname]
  refine wpAny_pure ⟨plainId_quiet F.plain_max_loop _, codeAny_max_loop_firstH W H hw bt hcmp s₂.heap.objs.size hSf (fresh_in hkeep) _ hn (fun b o e => Heap.get?_push_of_some _ (hkeep b o e)) (W.frame 0 s₂ _ s₂.toks hst (Nat.le_refl _) fun b _ o e => Heap.get?_push_of_some _ e) (Heap.get?_push_size _ rfl) fun v s' hP hm => ?_⟩
  exact hQ v s' hP (Moved.drop_new (tk := s₂.toks) hm (Nat.le_refl _))
theorem alike2 {α : Type} [DecidableEq α] [DatumOrd α] (x y : α) : AlikeAll [Datum.toD x, Datum.toD y] := alikeAll_datum [x, y]
theorem min_two_datum {α : Type} [DecidableEq α] [DatumOrd α] {a b : Value} {x y : α} {Q : Value → Shared → Prop} (hh : A.handled = none) (Ha : Holds s.heap a x) (Hb : Holds s.heap b y) (hu : A.units + 1 + Datum.depth α < cLine)
    (h : ∀ h' tk, (∀ b o, s.heap.get? b = some o → h'.get? b = some o) → Q (if DatumOrd.lt y x then b else a) { s with heap := h', toks := tk }) : wpAny (model prog w) A (call (.builtin "min") [a, b]) Q E s := by
  have hT : (s.heap.push { cls := .type "tuple", data := .seq #[a, b] }).IsTuple s.heap.objs.size #[a, b] := ⟨_, Heap.get?_push_size _ rfl, rfl, 0, rfl⟩
  have k0 : ∀ b' o, s.heap.get? b' = some o → (s.heap.push { cls := .type "tuple", data := .seq #[a, b] }).get? b' = some o := fun b' o e => Heap.get?_push_of_some _ e
  obtain ⟨as, ra⟩ := Ha.keeps k0
  obtain ⟨bs, rb⟩ := Hb.keeps k0
  have hr : ReadsAll (s.heap.push { cls := .type "tuple", data := .seq #[a, b] }) (#[a, b] : Array Value).toList [Datum.toD x, Datum.toD y] _ := .cons ra (.cons rb .nil)
  have hd : PyData.depthAll [Datum.toD x, Datum.toD y] ≤ Datum.depth α := depthAll_map [x, y]
  refine call_min_twoH (iter_tupleW (A := A.in1) (s := { s with heap := s.heap.push { cls := .type "tuple", data := .seq #[a, b] } }) hh hT fun s₂ e W st hfp hw hk => ?_)
  refine ⟨_, _, _, _, _, _, _, (s.heap.push { cls := .type "tuple", data := .seq #[a, b] }), _, rfl, W, st, hfp, by show 0 < 2; decide, hw, hk, cmpIn_lt (A := A.in1) (s := { s with heap := s.heap.push { cls := .type "tuple", data := .seq #[a, b] } }) hr (alike2 x y) (by show A.units + 1 + _ < _; omega), fun v s' hP m => ?_⟩
  obtain ⟨h', tk, rfl, hk'⟩ := moved_old e rfl m
  have e2 := (argBest_fold dataLt PyData.none (Datum.toD x) [Datum.toD y] 1 (Nat.le_refl _)).2
  have hv : v = if DatumOrd.lt y x then b else a := by
    have hP' : (#[a, b] : Array Value)[argBest (fun i j => dataLt ([Datum.toD x, Datum.toD y].getD i .none) ([Datum.toD x, Datum.toD y].getD j .none)) 1]? = some v := hP
    have hb : dataLt (Datum.toD y) (Datum.toD x) = DatumOrd.lt y x := DatumOrd.lt_eq y x
    cases hc : DatumOrd.lt y x with
    | true =>
      have e : argBest (fun i j => dataLt ([Datum.toD x, Datum.toD y].getD i .none) ([Datum.toD x, Datum.toD y].getD j .none)) 1 = 1 := by simp [argBest, hb, hc]
      rw [e] at hP'
      simpa using hP'.symm
    | false =>
      have e : argBest (fun i j => dataLt ([Datum.toD x, Datum.toD y].getD i .none) ([Datum.toD x, Datum.toD y].getD j .none)) 1 = 0 := by simp [argBest, hb, hc]
      rw [e] at hP'
      simpa using hP'.symm
  rw [hv]
  exact h h' tk fun c o q => hk' c o (k0 c o q)
theorem max_two_datum {α : Type} [DecidableEq α] [DatumOrd α] {a b : Value} {x y : α} {Q : Value → Shared → Prop} (hh : A.handled = none) (Ha : Holds s.heap a x) (Hb : Holds s.heap b y) (hu : A.units + 1 + Datum.depth α < cLine)
    (h : ∀ h' tk, (∀ b o, s.heap.get? b = some o → h'.get? b = some o) → Q (if DatumOrd.lt x y then b else a) { s with heap := h', toks := tk }) : wpAny (model prog w) A (call (.builtin "max") [a, b]) Q E s := by
  have hT : (s.heap.push { cls := .type "tuple", data := .seq #[a, b] }).IsTuple s.heap.objs.size #[a, b] := ⟨_, Heap.get?_push_size _ rfl, rfl, 0, rfl⟩
  have k0 : ∀ b' o, s.heap.get? b' = some o → (s.heap.push { cls := .type "tuple", data := .seq #[a, b] }).get? b' = some o := fun b' o e => Heap.get?_push_of_some _ e
  obtain ⟨as, ra⟩ := Ha.keeps k0
  obtain ⟨bs, rb⟩ := Hb.keeps k0
  have hr : ReadsAll (s.heap.push { cls := .type "tuple", data := .seq #[a, b] }) (#[a, b] : Array Value).toList [Datum.toD x, Datum.toD y] _ := .cons ra (.cons rb .nil)
  have hd : PyData.depthAll [Datum.toD x, Datum.toD y] ≤ Datum.depth α := depthAll_map [x, y]
  refine call_max_twoH (iter_tupleW (A := A.in1) (s := { s with heap := s.heap.push { cls := .type "tuple", data := .seq #[a, b] } }) hh hT fun s₂ e W st hfp hw hk => ?_)
  refine ⟨_, _, _, _, _, _, _, (s.heap.push { cls := .type "tuple", data := .seq #[a, b] }), _, rfl, W, st, hfp, by show 0 < 2; decide, hw, hk, cmpIn_gt (A := A.in1) (s := { s with heap := s.heap.push { cls := .type "tuple", data := .seq #[a, b] } }) hr (alike2 x y) (by show A.units + 1 + _ < _; omega), fun v s' hP m => ?_⟩
  obtain ⟨h', tk, rfl, hk'⟩ := moved_old e rfl m
  have hv : v = if DatumOrd.lt x y then b else a := by
    have hP' : (#[a, b] : Array Value)[argBest (fun i j => dataLt ([Datum.toD x, Datum.toD y].getD j .none) ([Datum.toD x, Datum.toD y].getD i .none)) 1]? = some v := hP
    have hb : dataLt (Datum.toD x) (Datum.toD y) = DatumOrd.lt x y := DatumOrd.lt_eq x y
    cases hc : DatumOrd.lt x y with
    | true =>
      have e : argBest (fun i j => dataLt ([Datum.toD x, Datum.toD y].getD j .none) ([Datum.toD x, Datum.toD y].getD i .none)) 1 = 1 := by simp [argBest, hb, hc]
      rw [e] at hP'
      simpa using hP'.symm
    | false =>
      have e : argBest (fun i j => dataLt ([Datum.toD x, Datum.toD y].getD j .none) ([Datum.toD x, Datum.toD y].getD i .none)) 1 = 0 := by simp [argBest, hb, hc]
      rw [e] at hP'
      simpa using hP'.symm
  rw [hv]
  exact h h' tk fun c o q => hk' c o (k0 c o q)
end

/-! ### calls of built-ins -/
def CR1 (G : Gx) (q : List V → Hp → VK → Prop) (ds : List XD) (d : XD) : Prop := ∀ H vs, RepAll G H vs ds → ∀ Q : VK, (∀ v H', Gr H H' → Rep G H' v d → Q v H') → q vs H Q
def CRN (G : Gx) (q : List V → Hp → VK → Prop) (ds : List XD) (es : List PyData) : Prop := ∀ H vs, RepAll G H vs ds → ∀ Q : VK, (∀ p xs H', H p = none → Gr H H' → H' p = some (.lst xs) → DpAll G.K H' xs es → Q (.ref p) H') → q vs H Q
section
variable {G : Gx} {X : Cx} {lv : Nat} {r : DEnv} {e a b c : Expr} {es : List Expr} {pos p : Pos} {d d1 d2 : XD} {ds : List XD} {x : Str} {bi T : String} {q : List V → Hp → VK → Prop}
theorem dw_callB (hc : CallR X (.builtin bi) q) (hq : CR1 G q ds d) (hg : Gl X x) (hm : X.mg x = none) (hv : bootBuiltins x = some (.builtin bi)) (ha : DA G X (e :: es) r ds) (hn : x ≠ "__name__" := by decide) (hdb : (x == ("__debug__" : Str)) = false := by decide)
    (he : starEach (e :: es) X.env = (false, eval e X.env) :: starEach es X.env := by rfl) (hpl : (backTo pos (starEach es X.env)).any (·.1) = false := by rfl) : DW G X (.Call (.Name x p) (e :: es) [] pos) r d :=
  lift (pe_callB hc hg hm hv ha hn hdb he hpl) fun σ H Q ⟨O, f, k⟩ => ⟨O, f, fun vs H1 g1 r1 => hq H1 vs r1 Q fun v H2 g2 r2 => k v H2 (g1.trans g2) r2⟩
theorem dw_callTy (hc : CallR X (.type T) q) (hq : CR1 G q ds d) (hg : Gl X x) (hm : X.mg x = none) (hv : bootBuiltins x = some (.type T)) (ha : DA G X (e :: es) r ds) (hn : x ≠ "__name__" := by decide) (hdb : (x == ("__debug__" : Str)) = false := by decide)
    (he : starEach (e :: es) X.env = (false, eval e X.env) :: starEach es X.env := by rfl) (hpl : (backTo pos (starEach es X.env)).any (·.1) = false := by rfl) : DW G X (.Call (.Name x p) (e :: es) [] pos) r d :=
  lift (pe_callTy hc hg hm hv ha hn hdb he hpl) fun σ H Q ⟨O, f, k⟩ => ⟨O, f, fun vs H1 g1 r1 => hq H1 vs r1 Q fun v H2 g2 r2 => k v H2 (g1.trans g2) r2⟩
theorem dn_callB {ys : List PyData} (hc : CallR X (.builtin bi) q) (hq : CRN G q ds ys) (hi : ims ys = true) (hg : Gl X x) (hm : X.mg x = none) (hv : bootBuiltins x = some (.builtin bi)) (ha : DA G X (e :: es) r ds) (hn : x ≠ "__name__" := by decide) (hdb : (x == ("__debug__" : Str)) = false := by decide)
    (he : starEach (e :: es) X.env = (false, eval e X.env) :: starEach es X.env := by rfl) (hpl : (backTo pos (starEach es X.env)).any (·.1) = false := by rfl) : DN G X (.Call (.Name x p) (e :: es) [] pos) r ys :=
  ⟨hi, lift (pe_callB hc hg hm hv ha hn hdb he hpl) fun σ H Q ⟨O, f, k⟩ => ⟨O, f, fun vs H1 g1 r1 => hq H1 vs r1 Q fun p xs H2 n g2 e2 r2 => k p xs H2 (g1.back n) (g1.trans g2) e2 r2⟩⟩
theorem dn_callTy {ys : List PyData} (hc : CallR X (.type T) q) (hq : CRN G q ds ys) (hi : ims ys = true) (hg : Gl X x) (hm : X.mg x = none) (hv : bootBuiltins x = some (.type T)) (ha : DA G X (e :: es) r ds) (hn : x ≠ "__name__" := by decide) (hdb : (x == ("__debug__" : Str)) = false := by decide)
    (he : starEach (e :: es) X.env = (false, eval e X.env) :: starEach es X.env := by rfl) (hpl : (backTo pos (starEach es X.env)).any (·.1) = false := by rfl) : DN G X (.Call (.Name x p) (e :: es) [] pos) r ys :=
  ⟨hi, lift (pe_callTy hc hg hm hv ha hn hdb he hpl) fun σ H Q ⟨O, f, k⟩ => ⟨O, f, fun vs H1 g1 r1 => hq H1 vs r1 Q fun p xs H2 n g2 e2 r2 => k p xs H2 (g1.back n) (g1.trans g2) e2 r2⟩⟩
theorem rep1 {H : Hp} {vs : List V} {d : XD} (h : RepAll G H vs [d]) : ∃ v, vs = [v] ∧ Rep G H v d := by
  cases h with
  | cons h1 h2 => cases h2; exact ⟨_, rfl, h1⟩
theorem rep2 {H : Hp} {vs : List V} {d1 d2 : XD} (h : RepAll G H vs [d1, d2]) : ∃ v u, vs = [v, u] ∧ Rep G H v d1 ∧ Rep G H u d2 := by
  cases h with
  | cons h1 h2 =>
    obtain ⟨u, rfl, h3⟩ := rep1 h2
    exact ⟨_, _, rfl, h1, h3⟩
theorem dps_ints {K : PySem.W.Frag} {H : Hp} : ∀ {ns : List Int} {xs : List V}, DpAll K H xs (ns.map PyData.int) → xs = ns.map V.int
  | [], _, h => by cases h; rfl
  | n :: ns, _, h => by
    cases h with
    | cons h1 h2 => rw [dp_int h1, dps_ints h2]; rfl
theorem dps_bls {K : PySem.W.Frag} {H : Hp} : ∀ {ns : List Bool} {xs : List V}, DpAll K H xs (ns.map PyData.bool) → xs = ns.map V.bl
  | [], _, h => by cases h; rfl
  | n :: ns, _, h => by
    cases h with
    | cons h1 h2 => rw [dp_bl h1, dps_bls h2]; rfl

section
variable [o : On G X lv]
include o
/-- len of a list, of a tuple -/
theorem dw_lenL {ys : List PyData} (ha : DW G X a r (.dat (.list ys))) (hg : Gl X "len" := by rfl) (he : starEach [a] X.env = [(false, eval a X.env)] := by rfl) (hpl : (backTo pos (starEach [] X.env)).any (·.1) = false := by rfl) :
    DW G X (.Call (.Name "len" p) [a] [] pos) r (.dat (.int ys.length)) := by
  obtain ⟨⟨CT, CB, rfl⟩, _, _, _, gl⟩ := o
  refine dw_callB call_len_seq ?_ hg gl.len PySem.boot_len (da_one ha he) (he := he) (hpl := hpl)
  intro H vs h Q k
  obtain ⟨v, rfl, h1⟩ := rep1 h
  obtain ⟨l, xs, rfl, hs, hd⟩ := dp_lst h1
  refine ⟨l, xs, rfl, .inl hs, k _ H (Gr.refl H) ?_⟩
  rw [dps_len hd]
  exact .int _
theorem dw_lenT {ys : List PyData} (ha : DW G X a r (.dat (.tuple ys))) (hg : Gl X "len" := by rfl) (he : starEach [a] X.env = [(false, eval a X.env)] := by rfl) (hpl : (backTo pos (starEach [] X.env)).any (·.1) = false := by rfl) :
    DW G X (.Call (.Name "len" p) [a] [] pos) r (.dat (.int ys.length)) := by
  obtain ⟨⟨CT, CB, rfl⟩, _, _, _, gl⟩ := o
  refine dw_callB call_len_seq ?_ hg gl.len PySem.boot_len (da_one ha he) (he := he) (hpl := hpl)
  intro H vs h Q k
  obtain ⟨v, rfl, h1⟩ := rep1 h
  obtain ⟨l, xs, rfl, hs, hd⟩ := dp_tup h1
  refine ⟨l, xs, rfl, .inr hs, k _ H (Gr.refl H) ?_⟩
  rw [dps_len hd]
  exact .int _
theorem dw_len {α : Type} [DecidableEq α] [Datum α] {xs : List α} (ha : DW G X a r (D xs)) (hg : Gl X "len" := by rfl) (he : starEach [a] X.env = [(false, eval a X.env)] := by rfl) (hpl : (backTo pos (starEach [] X.env)).any (·.1) = false := by rfl) :
    DW G X (.Call (.Name "len" p) [a] [] pos) r (.dat (.int xs.length)) := by
  have h := dw_lenL (ys := Ds xs) (p := p) (pos := pos) ha hg he hpl
  rw [List.length_map] at h
  exact h
theorem dw_lent {α : Type} [DecidableEq α] [Datum α] {xs : List α} (ha : DW G X a r (D (Tup.mk xs))) (hg : Gl X "len" := by rfl) (he : starEach [a] X.env = [(false, eval a X.env)] := by rfl) (hpl : (backTo pos (starEach [] X.env)).any (·.1) = false := by rfl) :
    DW G X (.Call (.Name "len" p) [a] [] pos) r (.dat (.int xs.length)) := by
  have h := dw_lenT (ys := Ds xs) (p := p) (pos := pos) ha hg he hpl
  rw [List.length_map] at h
  exact h
theorem dw_sum {ns : List Int} (ha : DW G X a r (D ns)) (hg : Gl X "sum" := by rfl) (he : starEach [a] X.env = [(false, eval a X.env)] := by rfl) (hpl : (backTo pos (starEach [] X.env)).any (·.1) = false := by rfl) :
    DW G X (.Call (.Name "sum" p) [a] [] pos) r (.dat (.int ns.sum)) := by
  obtain ⟨⟨CT, CB, rfl⟩, hc, _, _, gl⟩ := o
  refine dw_callB (cr_sum hc) ?_ hg gl.sum PyProof.Rows.boot_sum (da_one ha he) (he := he) (hpl := hpl)
  intro H vs h Q k
  obtain ⟨v, rfl, h1⟩ := rep1 h
  obtain ⟨l, xs, rfl, hs, hd⟩ := dp_lst h1
  rw [dps_ints hd] at hs
  exact ⟨l, ns, rfl, hs, k _ H (Gr.refl H) (.int _)⟩
theorem dw_all {bs : List Bool} (ha : DW G X a r (D bs)) (hg : Gl X "all" := by rfl) (he : starEach [a] X.env = [(false, eval a X.env)] := by rfl) (hpl : (backTo pos (starEach [] X.env)).any (·.1) = false := by rfl) :
    DW G X (.Call (.Name "all" p) [a] [] pos) r (.dat (.bool (bs.all id))) := by
  obtain ⟨⟨CT, CB, rfl⟩, hc, _, _, gl⟩ := o
  refine dw_callB (cr_all hc) ?_ hg gl.all PyProof.Rows.boot_all (da_one ha he) (he := he) (hpl := hpl)
  intro H vs h Q k
  obtain ⟨v, rfl, h1⟩ := rep1 h
  obtain ⟨l, xs, rfl, hs, hd⟩ := dp_lst h1
  rw [dps_bls hd] at hs
  exact ⟨l, bs, rfl, hs, k _ H (Gr.refl H) (.bl _)⟩
theorem dw_any {bs : List Bool} (ha : DW G X a r (D bs)) (hg : Gl X "any" := by rfl) (he : starEach [a] X.env = [(false, eval a X.env)] := by rfl) (hpl : (backTo pos (starEach [] X.env)).any (·.1) = false := by rfl) :
    DW G X (.Call (.Name "any" p) [a] [] pos) r (.dat (.bool (bs.any id))) := by
  obtain ⟨⟨CT, CB, rfl⟩, hc, _, _, gl⟩ := o
  refine dw_callB (cr_any hc) ?_ hg gl.any PyProof.Rows.boot_any (da_one ha he) (he := he) (hpl := hpl)
  intro H vs h Q k
  obtain ⟨v, rfl, h1⟩ := rep1 h
  obtain ⟨l, xs, rfl, hs, hd⟩ := dp_lst h1
  rw [dps_bls hd] at hs
  exact ⟨l, bs, rfl, hs, k _ H (Gr.refl H) (.bl _)⟩
theorem dw_int {i : Int} (ha : DW G X a r (.dat (.int i))) (hg : Gl X "int" := by rfl) (he : starEach [a] X.env = [(false, eval a X.env)] := by rfl) (hpl : (backTo pos (starEach [] X.env)).any (·.1) = false := by rfl) :
    DW G X (.Call (.Name "int" p) [a] [] pos) r (.dat (.int i)) := by
  obtain ⟨⟨CT, CB, rfl⟩, hc, _, _, gl⟩ := o
  refine dw_callTy call_int1 ?_ hg gl.int PyProof.Rows.boot_int (da_one ha he) (he := he) (hpl := hpl)
  intro H vs h Q k
  obtain ⟨v, rfl, h1⟩ := rep1 h
  exact .inl ⟨i, by rw [dp_int h1], k _ H (Gr.refl H) (.int _)⟩
theorem dn_list {ys : List PyData} (ha : DW G X a r (.dat (.list ys))) (hi : ims ys = true) (hg : Gl X "list" := by rfl) (he : starEach [a] X.env = [(false, eval a X.env)] := by rfl) (hpl : (backTo pos (starEach [] X.env)).any (·.1) = false := by rfl) :
    DN G X (.Call (.Name "list" p) [a] [] pos) r ys := by
  obtain ⟨⟨CT, CB, rfl⟩, hc, _, _, gl⟩ := o
  refine dn_callTy call_list_of ?_ hi hg gl.list PyProof.Rows.boot_list (da_one ha he) (he := he) (hpl := hpl)
  intro H vs h Q k
  obtain ⟨v, rfl, h1⟩ := rep1 h
  obtain ⟨l, xs, rfl, hs, hd⟩ := dp_lst h1
  exact ⟨l, xs, rfl, .inl hs, fun p hp => k p xs _ hp (Gr.new hp) upd_same (dps_gr (Gr.new hp) ys xs hd)⟩
theorem dw_tuple {ys : List PyData} (ha : DW G X a r (.dat (.list ys))) (hg : Gl X "tuple" := by rfl) (he : starEach [a] X.env = [(false, eval a X.env)] := by rfl) (hpl : (backTo pos (starEach [] X.env)).any (·.1) = false := by rfl) :
    DW G X (.Call (.Name "tuple" p) [a] [] pos) r (.dat (.tuple ys)) := by
  obtain ⟨⟨CT, CB, rfl⟩, hc, _, _, gl⟩ := o
  refine dw_callTy call_tuple_of ?_ hg gl.tuple PyProof.Rows.boot_tuple (da_one ha he) (he := he) (hpl := hpl)
  intro H vs h Q k
  obtain ⟨v, rfl, h1⟩ := rep1 h
  obtain ⟨l, xs, rfl, hs, hd⟩ := dp_lst h1
  exact ⟨l, xs, rfl, .inl ⟨hs, fun p hp => k (.ref p) _ (Gr.new hp) (.tup (.of upd_same) (dps_gr (Gr.new hp) ys xs hd))⟩⟩
end
end
end RC

/-! RcE: min, max, sorted of typed data; subscripts, slices, concatenations. -/
namespace RC
open PySem L2
open PySem.W (Datum DatumOrd Tup T3 Holds HoldAll minOf maxOf EachIs)

/-- Python's sorted, of typed data -/
def sortD {α : Type} [DecidableEq α] [DatumOrd α] (xs : List α) : List α := xs.mergeSort fun a b => !DatumOrd.lt b a
/-- .. by length -/
def sortLen {α : Type} (xs : List (List α)) : List (List α) := xs.mergeSort fun a b => decide (a.length ≤ b.length)
theorem sortD_perm {α : Type} [DecidableEq α] [DatumOrd α] (xs : List α) : (sortD xs).Perm xs := List.mergeSort_perm xs _
theorem sortLen_perm {α : Type} (xs : List (List α)) : (sortLen xs).Perm xs := List.mergeSort_perm xs _

section
variable {X : Cx} {K : PySem.W.Frag} {H : Hp}
theorem each_vals : ∀ {vs : List V} {us : List Value} (f : V → Value → Prop), Vals vs us → (∀ v u, RelV v u → f v u) → EachIs (fun u v => f v u) us vs
  | _, _, _, .nil, _ => .nil
  | _, _, f, .cons h t, k => .cons (k _ _ h) (each_vals f t k)
/-- the values and what they stand for, side by side -/
theorem dps_zip {α : Type} [DecidableEq α] [Datum α] : ∀ {vs : List V} {xs : List α}, DpAll K H vs (Ds xs) → ∃ ps : List (V × α), ps.map (·.1) = vs ∧ ps.map (·.2) = xs ∧ ∀ p, p ∈ ps → Dp K H p.1 (toD p.2)
  | _, [], h => by
    cases h
    exact ⟨[], rfl, rfl, fun p hp => by cases hp⟩
  | _, x :: xs, h => by
    have h' : DpAll K H _ (toD x :: Ds xs) := h
    cases h' with
    | cons h1 h2 =>
      obtain ⟨ps, e1, e2, q⟩ := dps_zip h2
      refine ⟨(_, x) :: ps, by rw [List.map_cons, e1], by rw [List.map_cons, e2], fun p hp => ?_⟩
      rcases List.mem_cons.mp hp with rfl | hp
      · exact h1
      · exact q p hp
theorem each_pairs {α : Type} : ∀ {ps : List (V × α)} {us : List Value}, Vals (ps.map (·.1)) us → EachIs (fun u (p : V × α) => RelV p.1 u) us ps
  | [], _, h => by cases h; exact .nil
  | p :: ps, _, h => by
    have h' : Vals (p.1 :: ps.map (·.1)) _ := h
    cases h' with
    | cons h1 h2 => exact .cons h1 (each_pairs h2)
theorem pairs_vals {α : Type} : ∀ {us : List Value} {ps : List (V × α)}, EachIs (fun u (p : V × α) => RelV p.1 u) us ps → Vals (ps.map (·.1)) us
  | _, _, .nil => .nil
  | _, _, .cons h1 h2 => .cons h1 (pairs_vals h2)
theorem each_and {α β : Type} {R S : α → β → Prop} : ∀ {as : List α} {bs : List β}, EachIs R as bs → (∀ a b, b ∈ bs → R a b → S a b) → EachIs S as bs
  | _, _, .nil, _ => .nil
  | _, _, .cons h1 h2, k => .cons (k _ _ List.mem_cons_self h1) (each_and h2 fun a b hb => k a b (List.mem_cons_of_mem _ hb))
end

section
variable (K : PySem.W.Frag) (α : Type) [DecidableEq α]
def rMinA [DatumOrd α] : List V → Hp → VK → Prop := fun vs H Q => ∃ (a : V) (x : α) (xs : List α), vs = [a] ∧ Dp K H a (.list (Ds (x :: xs))) ∧ ∀ v, Dp K H v (toD (minOf x xs)) → Q v H
def rMin2A [DatumOrd α] : List V → Hp → VK → Prop := fun vs H Q => ∃ (a b : V) (x y : α), vs = [a, b] ∧ Dp K H a (toD x) ∧ Dp K H b (toD y) ∧ Q (if DatumOrd.lt y x then b else a) H
def rMax2A [DatumOrd α] : List V → Hp → VK → Prop := fun vs H Q => ∃ (a b : V) (x y : α), vs = [a, b] ∧ Dp K H a (toD x) ∧ Dp K H b (toD y) ∧ Q (if DatumOrd.lt x y then b else a) H
def rSortA [DatumOrd α] : List V → Hp → VK → Prop := fun vs H Q => ∃ (a : V) (xs : List α), vs = [a] ∧ Dp K H a (.list (Ds xs)) ∧ PySem.W.Sortable (Ds xs) ∧ xs.length ≤ 100000 ∧
  ∀ p ws, H p = none → DpAll K H ws (Ds (sortD xs)) → Q (.ref p) (upd H p (.lst ws))
end
section
variable {X : Cx} {α : Type} [DecidableEq α] [DatumOrd α]
theorem cr_minA (hc : X.calm = true) (hu : X.A.units + 1 + Datum.depth α < cLine) : CallR X (.builtin "min") (rMinA X.K α) := by
  intro pins s σ H vs us Q I r h
  obtain ⟨a, x, xs, rfl, ha, q⟩ := h
  obtain ⟨u, rfl, ru⟩ := vals1 r
  obtain ⟨l, ws, rfl, hs, hd⟩ := dp_lst ha
  cases ru
  obtain ⟨its, rv, p, _⟩ := I.list hs
  refine PySem.W.min_list_datum (x := x) (xs := xs) (I.ok.hd hc) p.isList (holdAll_of (xs := x :: xs) I hd rv) hu fun i v h' tk hi hv hk => ?_
  have hi' : its[i]? = some v := by simpa using hi
  have hlen : i < ws.length := by
    rw [rv.length]
    exact (List.getElem?_eq_some_iff.mp hi').1
  obtain ⟨u', hu', ru'⟩ := rv.get (x := ws[i]) (i := i) (List.getElem?_eq_getElem hlen)
  rw [hi'] at hu'
  cases hu'
  obtain ⟨d, hd1, hd2⟩ := dps_get hd (List.getElem?_eq_getElem hlen)
  have hm : d ∈ Ds (x :: xs) := List.mem_of_getElem? hd1
  obtain ⟨y, hy, rfl⟩ := List.mem_map.mp hm
  have I1 : L2.Inv X pins σ H { s with heap := h', toks := tk } := I.kept hk
  obtain ⟨as1, r1⟩ := holds_of (x := y) I1 hd2 ru'
  obtain ⟨as2, r2⟩ := hv
  have e := PySem.W.alike_unique _ _ v as1 as2 (DatumOrd.alike y (minOf x xs)) r1 r2
  exact ⟨ws[i], H, I1, ru', q _ (e ▸ hd2)⟩
theorem cr_min2A (hc : X.calm = true) (hu : X.A.units + 1 + Datum.depth α < cLine) : CallR X (.builtin "min") (rMin2A X.K α) := by
  intro pins s σ H vs us Q I r h
  obtain ⟨a, b, x, y, rfl, ha, hb, q⟩ := h
  obtain ⟨u, w', rfl, ru, rw'⟩ := vals2 r
  refine min_two_datum (x := x) (y := y) (I.ok.hd hc) (holds_of I ha ru) (holds_of I hb rw') hu fun h' tk hk => ?_
  have I1 : L2.Inv X pins σ H { s with heap := h', toks := tk } := I.kept hk
  refine ⟨_, H, I1, ?_, q⟩
  split
  · exact rw'
  · exact ru
theorem cr_max2A (hc : X.calm = true) (hu : X.A.units + 1 + Datum.depth α < cLine) : CallR X (.builtin "max") (rMax2A X.K α) := by
  intro pins s σ H vs us Q I r h
  obtain ⟨a, b, x, y, rfl, ha, hb, q⟩ := h
  obtain ⟨u, w', rfl, ru, rw'⟩ := vals2 r
  refine max_two_datum (x := x) (y := y) (I.ok.hd hc) (holds_of I ha ru) (holds_of I hb rw') hu fun h' tk hk => ?_
  have I1 : L2.Inv X pins σ H { s with heap := h', toks := tk } := I.kept hk
  refine ⟨_, H, I1, ?_, q⟩
  split
  · exact rw'
  · exact ru
theorem size100 {n : Nat} (h : n ≤ 100000) : n ≤ sizeLine := Nat.le_trans h (by rw [sizeLine_eq]; decide)
theorem cr_sortA (hu : X.A.units + 2 + Datum.depth α < cLine) : CallR X (.builtin "sorted") (rSortA X.K α) := by
  intro pins s σ H vs us Q I r h
  obtain ⟨a, xs, rfl, ha, hk, hz, q⟩ := h
  obtain ⟨u, rfl, ru⟩ := vals1 r
  obtain ⟨l, ws, rfl, hs, hd⟩ := dp_lst ha
  cases ru
  obtain ⟨its, rv, p, _⟩ := I.list hs
  obtain ⟨ps, e1, e2, hps⟩ := dps_zip hd
  subst e1 e2
  have ep := each_pairs rv
  have er : EachIs (fun v (b : V × α) => ∃ as, Reads s.heap v (toD b.2) as) its ps := each_and ep fun u b hb hr => holds_of (x := b.2) I (hps b hb) hr
  have em : ps.map (fun b => toD b.2) = Ds (ps.map (·.2)) := (List.map_map (f := fun b : V × α => b.2) (g := Datum.toD) (l := ps)).symm
  have hal : PySem.W.AllAlike (ps.map fun b => toD b.2) := by
    rw [em]
    exact PySem.W.AllAlike.of fun b b' => DatumOrd.alike b b'
  rw [List.length_map] at hz
  refine PySem.W.sorted_data (enc := fun b : V × α => toD b.2) p.isList ep er hal (by rw [em]; exact hk) (size100 hz) (fun b hb => ?_) fun out hl ho => ?_
  · have h1 := Datum.depth_le b.2
    have h2 : (toD b.2).depth ≤ Datum.depth α := h1
    omega
  obtain ⟨ep', he'⟩ := PyProof.Rows.sortedAll_at s.heap its out.toArray
  have hv := pairs_vals ho
  have hlen : ((ps.mergeSort (PySem.W.dataLe false fun b : V × α => toD b.2)).map (·.1)).length ≤ sizeLine := by rw [List.length_map, List.length_mergeSort]; exact size100 hz
  refine ⟨.ref _, upd H (s.heap.objs.size + 1) (.lst ((ps.mergeSort (PySem.W.dataLe false fun b : V × α => toD b.2)).map (·.1))),
    I.laid (t' := s.toks) (fun _ _ => PyProof.Rows.sortedAll_old) (Nat.le_succ _) ⟨hlen, out, ep', hv, he'⟩, rfl, q _ _ (I.hok.fresh (Nat.le_succ _)) ?_⟩
  have es : (ps.mergeSort (PySem.W.dataLe false fun b : V × α => toD b.2)).map (·.2) = sortD (ps.map (·.2)) := by
    refine PySem.W.sort_maps (fun b : V × α => b.2) fun a _ b _ => ?_
    have e3 : PySem.W.dataLt (toD b.2) (toD a.2) = DatumOrd.lt b.2 a.2 := DatumOrd.lt_eq b.2 a.2
    rw [← e3]
    rfl
  rw [← es]
  have e4 : Ds ((ps.mergeSort (PySem.W.dataLe false fun b : V × α => toD b.2)).map (·.2)) = (ps.mergeSort (PySem.W.dataLe false fun b : V × α => toD b.2)).map (fun b => toD b.2) := List.map_map (f := fun b : V × α => b.2) (g := Datum.toD)
  rw [e4]
  exact dps_map _ _ fun b hb => hps b ((List.mergeSort_perm ps _).mem_iff.mp hb)
end

section
variable {G : Gx} {X : Cx} {lv : Nat} {r : DEnv} {e a b c : Expr} {es : List Expr} {pos p : Pos} {d d1 d2 : XD} {ds : List XD} {α : Type} [DecidableEq α]
section
variable [o : On G X lv]
include o
theorem on_units2 {n : Nat} (h : n ≤ 60) : X.A.units + 2 + n < cLine := by
  have := o.room.units
  omega
variable [DatumOrd α]
theorem dw_min {x : α} {xs : List α} (ha : DW G X a r (D (x :: xs))) (hd : Datum.depth α ≤ 60 := by decide) (hg : Gl X "min" := by rfl) (he : starEach [a] X.env = [(false, eval a X.env)] := by rfl) (hpl : (backTo pos (starEach [] X.env)).any (·.1) = false := by rfl) :
    DW G X (.Call (.Name "min" p) [a] [] pos) r (D (minOf x xs)) := by
  have hu := on_units (G := G) (X := X) hd
  obtain ⟨⟨CT, CB, rfl⟩, hc, _, _, gl⟩ := o
  refine dw_callB (cr_minA (α := α) hc hu) ?_ hg gl.min PyProof.Rows.boot_min (da_one ha he) (he := he) (hpl := hpl)
  intro H vs h Q k
  obtain ⟨v, rfl, h1⟩ := rep1 h
  exact ⟨v, x, xs, rfl, h1, fun v' hv => k v' H (Gr.refl H) hv⟩
theorem dw_min2 {x y : α} (ha : DW G X a r (D x)) (hb : DW G X b r (D y)) (hd : Datum.depth α ≤ 60 := by decide) (hg : Gl X "min" := by rfl) (he : starEach [a, b] X.env = (false, eval a X.env) :: starEach [b] X.env := by rfl) (he2 : starEach [b] X.env = [(false, eval b X.env)] := by rfl)
    (hpl : (backTo pos (starEach [b] X.env)).any (·.1) = false := by rfl) : DW G X (.Call (.Name "min" p) [a, b] [] pos) r (D (if DatumOrd.lt y x then y else x)) := by
  have hu := on_units (G := G) (X := X) hd
  obtain ⟨⟨CT, CB, rfl⟩, hc, _, _, gl⟩ := o
  refine dw_callB (cr_min2A (α := α) hc hu) ?_ hg gl.min PyProof.Rows.boot_min (da_cons ha (da_one hb he2) he) (he := he) (hpl := hpl)
  intro H vs h Q k
  obtain ⟨v, u, rfl, h1, h2⟩ := rep2 h
  refine ⟨v, u, x, y, rfl, h1, h2, k _ H (Gr.refl H) ?_⟩
  split
  · exact h2
  · exact h1
theorem dw_max2 {x y : α} (ha : DW G X a r (D x)) (hb : DW G X b r (D y)) (hd : Datum.depth α ≤ 60 := by decide) (hg : Gl X "max" := by rfl) (he : starEach [a, b] X.env = (false, eval a X.env) :: starEach [b] X.env := by rfl) (he2 : starEach [b] X.env = [(false, eval b X.env)] := by rfl)
    (hpl : (backTo pos (starEach [b] X.env)).any (·.1) = false := by rfl) : DW G X (.Call (.Name "max" p) [a, b] [] pos) r (D (if DatumOrd.lt x y then y else x)) := by
  have hu := on_units (G := G) (X := X) hd
  obtain ⟨⟨CT, CB, rfl⟩, hc, _, _, gl⟩ := o
  refine dw_callB (cr_max2A (α := α) hc hu) ?_ hg gl.max PyProof.Rows.boot_max (da_cons ha (da_one hb he2) he) (he := he) (hpl := hpl)
  intro H vs h Q k
  obtain ⟨v, u, rfl, h1, h2⟩ := rep2 h
  refine ⟨v, u, x, y, rfl, h1, h2, k _ H (Gr.refl H) ?_⟩
  split
  · exact h2
  · exact h1
theorem dn_sorted [Imm α] {xs : List α} (ha : DW G X a r (D xs)) (hk : PySem.W.Sortable (Ds xs)) (hz : xs.length ≤ 100000) (hd : Datum.depth α ≤ 60 := by decide) (hg : Gl X "sorted" := by rfl) (he : starEach [a] X.env = [(false, eval a X.env)] := by rfl)
    (hpl : (backTo pos (starEach [] X.env)).any (·.1) = false := by rfl) : DN G X (.Call (.Name "sorted" p) [a] [] pos) r (Ds (sortD xs)) := by
  have hu := on_units2 (G := G) (X := X) hd
  obtain ⟨⟨CT, CB, rfl⟩, hc, _, _, gl⟩ := o
  refine dn_callB (cr_sortA (α := α) hu) ?_ (imsD _) hg gl.sorted PyProof.Rows.boot_sorted (da_one ha he) (he := he) (hpl := hpl)
  intro H vs h Q k
  obtain ⟨v, rfl, h1⟩ := rep1 h
  exact ⟨v, xs, rfl, h1, hk, hz, fun p ws hp hw => k p ws _ hp (Gr.new hp) upd_same (dps_gr (Gr.new hp) _ ws hw)⟩
end

/-! ### items, slices, joins -/
theorem dw_ixL [o : On G X lv] {ys : List PyData} {i : Nat} {j : Int} {d : PyData} (ha : DW G X a r (.dat (.list ys))) (hb : DW G X b r (.dat (.int j))) (hj : j = (i : Int)) (hi : ys[i]? = some d) (hs : PlainIx b := by intro _ _; rfl) : DW G X (.Subscript a b pos) r (.dat d) := by
  obtain ⟨⟨CT, CB, rfl⟩, _⟩ := o
  refine dw_ix ix_list ha hb ?_ hs
  intro H x y hx hy Q k
  obtain ⟨l, xs, rfl, h1, h2⟩ := dp_lst hx
  obtain ⟨v, hv, hd⟩ := dps_get' h2 hi
  exact ⟨l, xs, i, v, rfl, by rw [dp_int hy, hj], h1, atI_nat hv, k v H (Gr.refl H) hd⟩
theorem dw_ixT [o : On G X lv] {ys : List PyData} {i : Nat} {j : Int} {d : PyData} (ha : DW G X a r (.dat (.tuple ys))) (hb : DW G X b r (.dat (.int j))) (hj : j = (i : Int)) (hi : ys[i]? = some d) (hs : PlainIx b := by intro _ _; rfl) : DW G X (.Subscript a b pos) r (.dat d) := by
  obtain ⟨⟨CT, CB, rfl⟩, _⟩ := o
  refine dw_ix ix_tup ha hb ?_ hs
  intro H x y hx hy Q k
  obtain ⟨l, xs, rfl, h1, h2⟩ := dp_tup hx
  obtain ⟨v, hv, hd⟩ := dps_get' h2 hi
  exact ⟨l, xs, i, v, rfl, by rw [dp_int hy, hj], h1, atI_nat hv, k v H (Gr.refl H) hd⟩
/-- the part of a slice -/
abbrev DPt (G : Gx) (X : Cx) (e : Option Expr) (r : DEnv) (o : Option Int) : Prop := PO X e (fun σ H Q => ∃ O, Fit G O H σ r ∧ ∀ H', Gr H H' → Q o H')
theorem dpt_none : DPt G X none r none := ⟨fun pins s σ H Q I ⟨O, f, q⟩ => po_none.run pins s σ H Q I (q H (Gr.refl H))⟩
theorem dpt_some {i : Int} (h : DW G X e r (.dat (.int i))) : DPt G X (some e) r (some i) := ⟨fun pins s σ H Q I ⟨O, f, q⟩ => (po_some h).run pins s σ H Q I ⟨O, f, fun v H1 g1 r1 => ⟨i, dp_int r1, q H1 g1⟩⟩⟩
theorem cut_take {α : Type} (xs : List α) (n : Nat) : (xs.drop (HT.sIx xs.length 0 none)).take (HT.sIx xs.length xs.length (some (n : Int)) - HT.sIx xs.length 0 none) = xs.take n := by
  rw [HT.sIx_none, HT.sIx_nat, List.drop_zero, Nat.sub_zero]
  by_cases h : n ≤ xs.length
  · rw [Nat.min_eq_left h]
  · rw [Nat.min_eq_right (by omega), List.take_length, List.take_of_length_le (by omega)]
theorem cut_drop {α : Type} (xs : List α) (n : Nat) : (xs.drop (HT.sIx xs.length 0 (some (n : Int)))).take (HT.sIx xs.length xs.length none - HT.sIx xs.length 0 (some (n : Int))) = xs.drop n := by
  rw [HT.sIx_none, HT.sIx_nat]
  by_cases h : n ≤ xs.length
  · rw [Nat.min_eq_left h, List.take_of_length_le (by rw [List.length_drop]; exact Nat.le_refl _)]
  · rw [Nat.min_eq_right (by omega), List.drop_length, List.take_nil, List.drop_of_length_le (by omega)]
theorem cut_all {α : Type} (xs : List α) : (xs.drop (HT.sIx xs.length 0 none)).take (HT.sIx xs.length xs.length none - HT.sIx xs.length 0 none) = xs := by
  rw [HT.sIx_none, HT.sIx_none, List.drop_zero, Nat.sub_zero, List.take_length]
def cutD (ys : List PyData) (lo hi : Option Int) : List PyData := (ys.drop (HT.sIx ys.length 0 lo)).take (HT.sIx ys.length ys.length hi - HT.sIx ys.length 0 lo)
theorem dn_slice [o : On G X lv] {ys zs : List PyData} {lo hi : Option Expr} {l h : Option Int} {p2 : Pos} (ha : DW G X a r (.dat (.list ys))) (hl : DPt G X lo r l) (hh : DPt G X hi r h) (hi' : ims zs = true) (hz : cutD ys l h = zs) :
    DN G X (.Subscript a (.Slice lo hi none p2) pos) r zs := by
  obtain ⟨⟨CT, CB, rfl⟩, _⟩ := o
  refine ⟨hi', lift (pe_slice sl_list ha hl hh) fun σ H Q ⟨O, f, q⟩ => ⟨O, f, fun x H1 g1 r1 => ⟨O, f.gr g1, fun H2 g2 => ⟨O, (f.gr g1).gr g2, fun H3 g3 => ?_⟩⟩⟩⟩
  obtain ⟨l', xs, rfl, h1, h2⟩ := dp_lst (rep_gr (d := .dat (.list ys)) (g2.trans g3) r1)
  refine ⟨l', xs, rfl, h1, fun p hp => q p _ _ ((g1.trans (g2.trans g3)).back hp) ((g1.trans (g2.trans g3)).trans (Gr.new hp)) upd_same ?_⟩
  subst hz
  have := dps_len h2
  unfold cutV cutD
  rw [this]
  exact dps_take _ (dps_drop _ (dps_gr (Gr.new hp) _ _ h2))
/-- xs[:n], xs[n:], xs[:] of typed data -/
theorem dn_take [o : On G X lv] [Datum α] [Imm α] {xs : List α} {n : Nat} {j : Int} {p2 : Pos} (ha : DW G X a r (D xs)) (hb : DW G X b r (.dat (.int j))) (hj : j = (n : Int)) : DN G X (.Subscript a (.Slice none (some b) none p2) pos) r (Ds (xs.take n)) :=
  dn_slice (ys := Ds xs) ha dpt_none (dpt_some hb) (imsD _) (by subst hj; exact (cut_take (Ds xs) n).trans List.map_take.symm)
theorem dn_drop [o : On G X lv] [Datum α] [Imm α] {xs : List α} {n : Nat} {j : Int} {p2 : Pos} (ha : DW G X a r (D xs)) (hb : DW G X b r (.dat (.int j))) (hj : j = (n : Int)) : DN G X (.Subscript a (.Slice (some b) none none p2) pos) r (Ds (xs.drop n)) :=
  dn_slice (ys := Ds xs) ha (dpt_some hb) dpt_none (imsD _) (by subst hj; exact (cut_drop (Ds xs) n).trans List.map_drop.symm)
theorem dn_copy [o : On G X lv] [Datum α] [Imm α] {xs : List α} {p2 : Pos} (ha : DW G X a r (D xs)) : DN G X (.Subscript a (.Slice none none none p2) pos) r (Ds xs) :=
  dn_slice (ys := Ds xs) ha dpt_none dpt_none (imsD _) (cut_all _)
theorem dn_rev [o : On G X lv] [Datum α] [Imm α] {xs : List α} {k : Nat} {p1 p2 p3 : Pos} (ha : DW G X a r (D xs)) : DN G X (.Subscript a (.Slice none none (some (.UnaryOp .USub (.Constant (.int 1) k p1) p2)) p3) pos) r (Ds xs.reverse) := by
  obtain ⟨⟨CT, CB, rfl⟩, _⟩ := o
  refine ⟨imsD _, lift (pe_revL ha) fun σ H Q ⟨O, f, q⟩ => ⟨O, f, fun x H1 g1 r1 => ?_⟩⟩
  obtain ⟨l', ws, rfl, h1, h2⟩ := dp_lst (ds := Ds xs) r1
  refine ⟨l', ws, rfl, h1, fun p hp => q p _ _ (g1.back hp) (g1.trans (Gr.new hp)) upd_same ?_⟩
  rw [Ds, List.map_reverse]
  exact dps_reverse (dps_gr (Gr.new hp) _ _ h2)
/-- a list that stands at an address of one's own (not in the written part) -/
theorem op_catL : OpR X (binaryOp .Add) (fun x y H Q => ∃ l b xs zs, x = .ref l ∧ y = .ref b ∧ SqL X.K H l xs ∧ SqL X.K H b zs ∧ xs.length + zs.length ≤ 100000 ∧ ∀ p, H p = none → Q (.ref p) (upd H p (.lst (xs ++ zs)))) := by
  intro pins s σ H x y v u Q I rx ry h
  obtain ⟨l, b, xs, zs, rfl, rfl, h1, h2, hz, q⟩ := h
  cases rx
  cases ry
  obtain ⟨its, r, ⟨⟨cls, dd, data, sl⟩, n, ho, hc, _, hd⟩, _⟩ := I.list h1
  obtain ⟨its2, r2, ⟨⟨cls2, dd2, data2, sl2⟩, n2, ho2, hc2, _, hd2⟩, _⟩ := I.list h2
  simp only at hc hd hc2 hd2
  subst hc hd hc2 hd2
  have e : its.toArray ++ its2.toArray = (its ++ its2).toArray := by simp
  have hl1 := r.length
  have hl2 := r2.length
  have hsz : its.length + its2.length ≤ sizeLine := size100 (by omega)
  refine PySem.concat_meets ⟨_, ho, rfl⟩ ⟨_, ho2, rfl⟩ PySem.noFill_list_add PySem.seq_list_add PySem.F.slot_list_add PySem.F.entry_list_add (PySem.F.args_list_add_2 _ _) (PyProof.Rows.list_addW l b its.toArray its2.toArray n n2 dd dd2 sl sl2 (by simpa using hsz)) ⟨ho, ho2, ?_⟩
  rw [e]
  exact ⟨.ref _, _, I.lnew (t' := s.toks) (r.append r2) (size100 (by rw [List.length_append]; exact hz)), rfl, q _ I.fresh⟩
theorem dn_cat [o : On G X lv] [Datum α] [Imm α] {xs ys : List α} (ha : DW G X a r (D xs)) (hb : DW G X b r (D ys)) (hz : xs.length + ys.length ≤ 100000) : DN G X (.BinOp a .Add b pos) r (Ds (xs ++ ys)) := by
  obtain ⟨⟨CT, CB, rfl⟩, _⟩ := o
  refine dn_bin op_catL ha hb ?_ (imsD _)
  intro H x y hx hy Q k
  obtain ⟨l, vs, rfl, h1, h2⟩ := dp_lst (ds := Ds xs) hx
  obtain ⟨l', ws, rfl, h3, h4⟩ := dp_lst (ds := Ds ys) hy
  refine ⟨l, l', vs, ws, rfl, rfl, h1, h3, ?_, fun p hp => k p _ _ hp (Gr.new hp) upd_same ?_⟩
  · rw [dps_len h2, dps_len h4, List.length_map, List.length_map]
    exact hz
  · have e : Ds (xs ++ ys) = Ds xs ++ Ds ys := List.map_append
    rw [e]
    exact dps_append (dps_gr (Gr.new hp) _ _ h2) (dps_gr (Gr.new hp) _ _ h4)
end
end RC

/-! RcF: sorted by length, dicts, fields, calls of defs and methods, new instances. -/
namespace RC
open PySem L2
open PySem.W (Datum DatumOrd Tup T3 Holds HoldAll minOf maxOf EachIs)

/-! ### sorted(xs, key=len) -/
section
variable {X : Cx} {α : Type} [DecidableEq α] [Datum α]
theorem sortLen_run (hu : X.A.units + 2 < cLine) {pins : List (Addr × Obj)} {s : Shared} {σ : L2.St} {H : Hp} {l : Addr} {ws : List V} {xs : List (Tup α)} {Q : VK} (I : Inv X pins σ H s) (hs : SqL X.K H l ws) (hd : DpAll X.K H ws (Ds xs)) (hz : xs.length ≤ 100000) (hw : ∀ x, x ∈ xs → x.items.length ≤ 100000)
    (q : ∀ p ws', H p = none → DpAll X.K H ws' (Ds (xs.mergeSort fun a b => decide (a.items.length ≤ b.items.length))) → Q (.ref p) (upd H p (.lst ws'))) :
    wpAny (model X.prog X.w) X.A (call (.builtin "sorted") [.ref l] [(Str.ofString "key", .builtin "len")]) (EP X pins σ Q) X.xe s := by
  obtain ⟨its, rv, p, _⟩ := I.list hs
  obtain ⟨ps, e1, e2, hps⟩ := dps_zip hd
  subst e1 e2
  have ep := each_pairs rv
  rw [List.length_map] at hz
  let k : V × Tup α → PyData := fun b => .int ((b.2.items.length : Nat) : Int)
  have hal : PySem.W.AllAlike (ps.map k) := PySem.W.AllAlike.of fun b b' => by show PySem.W.alike (.int _) (.int _) = true; simp only [PySem.W.alike]
  have hk : PySem.W.Sortable (ps.map k) := PySem.W.Sortable.others fun b => ⟨fun e => (by cases e), fun xs e => (by cases e)⟩
  have ep2 : EachIs (fun u (p : V × Tup α) => RelV p.1 u ∧ p ∈ ps) its ps := each_and ep fun u b hb hr => ⟨hr, hb⟩
  refine PySem.W.sorted_key_data (f := .builtin "len") (b := false) k p.isList ep2 hal hk (size100 hz) (fun x hx => by show X.A.units + 2 + 0 < cLine; omega) (PyProof.Rows.ksk_s1 _ _) (fun x => PyProof.Rows.ksk_l1 _ _) (fun x => PyProof.Rows.ksk_t4 _ _) (fun v x hR hx h tk hkp => ?_) fun out c h' tk hkp hn he hl ho => ?_
  · obtain ⟨rx, hm⟩ := hR
    have hx2 : x.2.items.length ≤ 100000 := hw x.2 (List.mem_map.mpr ⟨x, hm, rfl⟩)
    obtain ⟨a, zs, ea, ht, hz2⟩ := dp_tup (hps x hm)
    have ea' : x.1 = V.ref a := ea
    rw [ea'] at rx
    cases rx
    have I1 : Inv X pins σ H { s with heap := h, toks := tk } := I.kept hkp
    obtain ⟨its2, rv2, pt, _⟩ := I1.tuple ht
    have e3 := rv2.length
    have e4 := dps_len hz2
    have e5 : its2.length = x.2.items.length := by rw [← e3, e4, List.length_map]
    have hn := line63
    refine PyProof.Rows.len_tuple (s := { s with heap := h, toks := tk }) pt (by simp only [List.size_toArray]; have := size100 hx2; omega) ?_
    refine ⟨h, tk + 1 + 1, rfl, fun b o e => e, ?_⟩
    have e6 : (its2.toArray.size : Int) = ((x.2.items.length : Nat) : Int) := by rw [List.size_toArray, e5]
    rw [e6]
    exact .int _ _
  · have hv : Vals ((ps.mergeSort (PySem.W.dataLe false k)).map (·.1)) out := by
      have ho' : EachIs (fun u (p : V × Tup α) => RelV p.1 u) out (ps.mergeSort (PySem.W.dataLe false k)) := each_and ho fun a b _ hr => hr.1
      exact pairs_vals ho'
    have hlen : ((ps.mergeSort (PySem.W.dataLe false k)).map (·.1)).length ≤ sizeLine := by rw [List.length_map, List.length_mergeSort]; exact size100 hz
    refine ⟨.ref _, upd H (s.heap.objs.size + 1) (.lst ((ps.mergeSort (PySem.W.dataLe false k)).map (·.1))), I.laid (t' := tk) hkp (Nat.le_succ _) ⟨hlen, out, c, hv, he⟩, rfl, q _ _ (I.hok.fresh (Nat.le_succ _)) ?_⟩
    have es : (ps.mergeSort (PySem.W.dataLe false k)).map (·.2) = (ps.map (·.2)).mergeSort fun a b => decide (a.items.length ≤ b.items.length) := by
      refine PySem.W.sort_maps (fun b : V × Tup α => b.2) fun a _ b _ => ?_
      have e3 : PySem.W.dataLt (k b) (k a) = decide (((b.2.items.length : Nat) : Int) < ((a.2.items.length : Nat) : Int)) := PySem.W.dataLt_int _ _
      show (!PySem.W.dataLt (k b) (k a)) = decide (a.2.items.length ≤ b.2.items.length)
      rw [e3, ← decide_not]
      exact decide_eq_decide.mpr (by omega)
    rw [← es]
    have e4 : Ds ((ps.mergeSort (PySem.W.dataLe false k)).map (·.2)) = (ps.mergeSort (PySem.W.dataLe false k)).map (fun b => toD b.2) := List.map_map (f := fun b : V × Tup α => b.2) (g := Datum.toD)
    rw [e4]
    exact dps_map _ _ fun b hb => hps b ((List.mergeSort_perm ps _).mem_iff.mp hb)
end
section
variable {G : Gx} {X : Cx} {lv : Nat} {r : DEnv} {e a b c : Expr} {es : List Expr} {pos p p2 kp : Pos} {d d1 d2 : XD} {ds : List XD} {α : Type} [DecidableEq α]
theorem dn_sortedLen [o : On G X lv] [Datum α] [Imm α] {xs : List (Tup α)} (ha : DW G X a r (D xs)) (hz : xs.length ≤ 100000) (hw : ∀ x, x ∈ xs → x.items.length ≤ 100000) (hg : Gl X "sorted" := by rfl) (hg2 : Gl X "len" := by rfl)
    (he : backTo pos (starEach [a] X.env) = (false, eval a X.env) :: backTo pos (starEach [] X.env) := by rfl) (hpl : (backTo pos (starEach [a] X.env)).any (·.1) = false := by rfl) (hs1 : starEach [a] X.env = [(false, eval a X.env)] := by rfl) :
    DN G X (.Call (.Name "sorted" p) [a] [⟨some "key", .Name "len" p2, kp⟩] pos) r (Ds (xs.mergeSort fun a b => decide (a.items.length ≤ b.items.length))) := by
  have hu := on_units2 (G := G) (X := X) (n := 0) (by decide)
  obtain ⟨⟨CT, CB, rfl⟩, hc, _, _, gl⟩ := o
  refine ⟨imsD _, ⟨fun pins s σ H Q I h => ?_⟩⟩
  obtain ⟨O, f, q⟩ := h
  refine PySem.wpAny_Call_Name_kw (ld_blt I hg gl.sorted PyProof.Rows.boot_sorted ?_)
  refine PyProof.Rows.callWith_kw (thn ((da_one ha hs1).run pos pins s σ H (fun vs H1 => Gr H H1 ∧ RepAll _ H1 vs [D xs]) I ⟨O, f, fun vs H1 g1 r1 => ⟨g1, r1⟩⟩) fun us s1 ⟨vs, H1, I1, r1, g1, q1⟩ => ?_) he hpl
  show wpAny _ _ (evalAll [do let v ← eval (.Name "len" p2) X.env; standAt pos; pure v]) _ _ s1
  refine wpAny_evalAll_cons (wpAny_bind (ld_blt I1 hg2 gl.len PySem.boot_len (wpAny_bind (wpAny_standAt (wpAny_pure (wpAny_evalAll_nil ?_))))))
  obtain ⟨v, rfl, h1⟩ := rep1 q1
  obtain ⟨u, rfl, ru⟩ := vals1 r1
  obtain ⟨l, ws, rfl, hs, hd⟩ := dp_lst (ds := Ds xs) h1
  cases ru
  exact sortLen_run (by simpa using hu) I1 hs hd hz hw fun p ws' hp hw' => q p ws' _ (g1.back hp) (g1.trans (Gr.new hp)) upd_same (dps_gr (Gr.new hp) _ _ hw')

/-! ### dicts -/
section
mutual
theorem kd_inj : ∀ (d e : PyData), ky d = true → ky e = true → kd d = kd e → d = e
  | .int i, .int j, _, _, h => by simp only [kd, NestedKey.num.injEq] at h; rw [h]
  | .int i, .tuple _, _, _, h => by simp [kd] at h
  | .tuple _, .int _, _, _, h => by simp [kd] at h
  | .tuple xs, .tuple ys, h1, h2, h => by
    simp only [kd, NestedKey.tup.injEq] at h
    simp only [ky] at h1 h2
    rw [kds_inj xs ys h1 h2 h]
  | .none, _, h, _, _ => by simp [ky] at h
  | .bool _, _, h, _, _ => by simp [ky] at h
  | .str _, _, h, _, _ => by simp [ky] at h
  | .list _, _, h, _, _ => by simp [ky] at h
  | .dict _, _, h, _, _ => by simp [ky] at h
  | .int _, .none, _, h, _ => by simp [ky] at h
  | .int _, .bool _, _, h, _ => by simp [ky] at h
  | .int _, .str _, _, h, _ => by simp [ky] at h
  | .int _, .list _, _, h, _ => by simp [ky] at h
  | .int _, .dict _, _, h, _ => by simp [ky] at h
  | .tuple _, .none, _, h, _ => by simp [ky] at h
  | .tuple _, .bool _, _, h, _ => by simp [ky] at h
  | .tuple _, .str _, _, h, _ => by simp [ky] at h
  | .tuple _, .list _, _, h, _ => by simp [ky] at h
  | .tuple _, .dict _, _, h, _ => by simp [ky] at h
theorem kds_inj : ∀ (ds es : List PyData), kys ds = true → kys es = true → kds ds = kds es → ds = es
  | [], [], _, _, _ => rfl
  | [], _ :: _, _, _, h => by simp [kds] at h
  | _ :: _, [], _, _, h => by simp [kds] at h
  | d :: ds, e :: es, h1, h2, h => by
    simp only [kds, List.cons.injEq] at h
    simp only [kys, Bool.and_eq_true] at h1 h2
    rw [kd_inj d e h1.1 h2.1 h.1, kds_inj ds es h1.2 h2.2 h.2]
end
mutual
theorem kd_depth : ∀ d : PyData, ky d = true → (kd d).depth = d.depth
  | .int _, _ => by simp only [kd, NestedKey.depth, PyData.depth]
  | .tuple xs, h => by
    simp only [ky] at h
    simp only [kd, NestedKey.depth, PyData.depth]
    rw [kds_depth xs h]
  | .none, h => by simp [ky] at h
  | .bool _, h => by simp [ky] at h
  | .str _, h => by simp [ky] at h
  | .list _, h => by simp [ky] at h
  | .dict _, h => by simp [ky] at h
theorem kds_depth : ∀ ds : List PyData, kys ds = true → NestedKey.depthAll (kds ds) = PyData.depthAll ds
  | [], _ => by simp only [kds, NestedKey.depthAll, PyData.depthAll]
  | d :: ds, h => by
    simp only [kys, Bool.and_eq_true] at h
    simp only [kds, NestedKey.depthAll, PyData.depthAll]
    rw [kd_depth d h.1, kds_depth ds h.2]
end
variable {X : Cx} {pins : List (Addr × Obj)} {σ : L2.St} {H : Hp} {s : Shared}
mutual
theorem nested_of (I : Inv X pins σ H s) : ∀ (d : PyData) (v : V) (u : Value), ky d = true → Dp X.K H v d → RelV v u → NestedIs s.heap (kd d) u
  | .int i, _, _, _, h, q => by
    cases h
    obtain ⟨t, rfl⟩ := q
    exact .int i t
  | .tuple ds, _, _, k, h, q => by
    simp only [ky] at k
    cases h with
    | tup h1 h2 =>
      cases q
      obtain ⟨its, rv, ⟨o, ho, hc, n, hd⟩, _⟩ := I.tuple h1
      exact .tup ho hc hd (nesteds_of I ds _ its k h2 rv)
  | .none, _, _, h, _, _ => by simp [ky] at h
  | .bool _, _, _, h, _, _ => by simp [ky] at h
  | .str _, _, _, h, _, _ => by simp [ky] at h
  | .list _, _, _, h, _, _ => by simp [ky] at h
  | .dict _, _, _, h, _, _ => by simp [ky] at h
theorem nesteds_of (I : Inv X pins σ H s) : ∀ (ds : List PyData) (vs : List V) (us : List Value), kys ds = true → DpAll X.K H vs ds → Vals vs us → NestedAll s.heap (kds ds) us
  | [], _, _, _, h, q => by
    cases h
    cases q
    exact .nil
  | d :: ds, _, _, k, h, q => by
    simp only [kys, Bool.and_eq_true] at k
    cases h with
    | cons h1 h2 =>
      cases q with
      | cons q1 q2 => exact .cons (nested_of I d _ _ k.1 h1 q1) (nesteds_of I ds _ _ k.2 h2 q2)
end
/-- the dict at a, as the library tells it -/
theorem dict_of (I : Inv X pins σ H s) {a : Addr} {xs : List DEnt} {kvs : List (NestedKey × Int)} (ha : H a = some (DO X.prog X.w a xs)) (hk : Paired (EntOk X.K H) kvs xs) : s.heap.DictOfH (nestedKind X.prog X.w) a xs := by
  obtain ⟨⟨_, o, es, ep, h1, h2, h3, h4, h5⟩, _⟩ := (show ObjOk X.prog X.w H s.heap a (DO X.prog X.w a xs) from I.hok a _ ha)
  refine ⟨o, es, ep, h1, h2, h3, h4, fun x hx => ?_, h5⟩
  have : ∀ {kvs : List (NestedKey × Int)} {xs : List DEnt}, Paired (EntOk X.K H) kvs xs → ∀ x, x ∈ xs → ∃ kv, EntOk X.K H kv x := by
    intro kvs xs h
    induction h with
    | nil => intro x hx; cases hx
    | cons p t ih =>
      intro x hx
      rcases List.mem_cons.mp hx with rfl | hx
      · exact ⟨_, p⟩
      · exact ih x hx
  obtain ⟨kv, e1, ⟨d, k1, k2, k3, k4⟩, _⟩ := this hk x hx
  refine ⟨?_, by rw [e1]; exact k3⟩
  rw [e1, ← k2]
  exact nested_of I d _ _ k1 k4 rfl
def dlook (kvs : List (NestedKey × Int)) (k : NestedKey) : Option Int := (kvs.find? fun p => decide (p.1 = k)).map (·.2)
theorem dlook_at {K : PySem.W.Frag} {H : Hp} {k : NestedKey} : ∀ {kvs : List (NestedKey × Int)} {xs : List DEnt} {n : Int}, Paired (EntOk K H) kvs xs → dlook kvs k = some n → ∃ a t, atKey xs k = some (a, .int n t)
  | _, _, _, .nil, h => by simp [dlook] at h
  | _, _, n, .cons (a := kv) (b := x) p t, h => by
    obtain ⟨e1, _, t', e2⟩ := p
    unfold dlook at h
    unfold atKey
    by_cases hk : kv.1 = k
    · rw [List.find?_cons_of_pos (by simpa using hk)] at h
      rw [List.find?_cons_of_pos (by simpa using e1.trans hk)]
      cases h
      exact ⟨x.2.1, t', by rw [← e2]; rfl⟩
    · rw [List.find?_cons_of_neg (by simpa using hk)] at h
      rw [List.find?_cons_of_neg (by simpa using fun e => hk (e1.symm.trans e))]
      exact dlook_at t h
end
end
end RC

/-! RcG: dict items, fields, calls of defs and methods, new instances. -/
namespace RC
open PySem L2
open PySem.W (Datum DatumOrd Tup T3 Holds HoldAll minOf maxOf EachIs)

/-- data that may be keys -/
class Ky (α : Type) [DecidableEq α] [Datum α] : Prop where
  key : ∀ a : α, ky (toD a) = true
instance : Ky Int := ⟨fun _ => rfl⟩
theorem kys_of : ∀ {xs : List PyData}, (∀ x, x ∈ xs → ky x = true) → kys xs = true
  | [], _ => rfl
  | y :: ys, h => by
    simp only [kys, Bool.and_eq_true]
    exact ⟨h y List.mem_cons_self, kys_of fun x hx => h x (List.mem_cons_of_mem _ hx)⟩
section
variable {α β : Type} [DecidableEq α] [Datum α] [Ky α] [DecidableEq β] [Datum β] [Ky β]
instance : Ky (Tup α) := ⟨fun a => by
  show ky (.tuple (a.items.map Datum.toD)) = true
  simp only [ky]
  refine kys_of fun x hx => ?_
  obtain ⟨y, _, rfl⟩ := List.mem_map.mp hx
  exact Ky.key y⟩
instance : Ky (α × β) := ⟨fun a => by
  show ky (.tuple [Datum.toD a.1, Datum.toD a.2]) = true
  have h1 : ky (Datum.toD a.1) = true := Ky.key a.1
  have h2 : ky (Datum.toD a.2) = true := Ky.key a.2
  simp only [ky, kys, h1, h2, Bool.and_self]⟩
/-- the key of a datum -/
def nk (a : α) : NestedKey := kd (toD a)
theorem toD_inj {a b : α} (h : toD a = toD b) : a = b := by
  have e := Datum.eqv a b
  have e2 := Datum.eqv b b
  have h' : Datum.toD a = Datum.toD b := h
  rw [h', e2] at e
  simp only [decide_true] at e
  exact of_decide_eq_true e.symm
theorem nk_inj {a b : α} (h : nk a = nk b) : a = b := toD_inj (kd_inj _ _ (Ky.key a) (Ky.key b) h)
/-- a dict of typed keys -/
def dk (kvs : List (α × Int)) : List (NestedKey × Int) := kvs.map fun p => (nk p.1, p.2)
abbrev Dd (kvs : List (α × Int)) : XD := .dic (dk kvs)
def look (kvs : List (α × Int)) (k : α) : Option Int := (kvs.find? fun p => decide (p.1 = k)).map (·.2)
theorem dlook_dk (k : α) : ∀ kvs : List (α × Int), dlook (dk kvs) (nk k) = look kvs k
  | [] => rfl
  | p :: kvs => by
    have ih := dlook_dk k kvs
    unfold dlook look dk at *
    rw [List.map_cons]
    by_cases h : p.1 = k
    · rw [List.find?_cons_of_pos (by simp [h]), List.find?_cons_of_pos (by simp [h])]
      rfl
    · rw [List.find?_cons_of_neg (by simpa using fun e => h (nk_inj e)), List.find?_cons_of_neg (by simpa using h)]
      exact ih
end

section
variable {G : Gx} {X : Cx} {lv : Nat} {r : DEnv} {e a b c : Expr} {es : List Expr} {pos p p2 kp : Pos} {d d1 d2 : XD} {ds : List XD} {α : Type} [DecidableEq α]
/-- d[k] -/
theorem dw_dget [o : On G X lv] [Datum α] [Ky α] {kvs : List (α × Int)} {k : α} {n : Int} (ha : DW G X a r (Dd kvs)) (hb : DW G X b r (D k)) (h : look kvs k = some n) (ht : ∃ ds, toD k = .tuple ds := by exact ⟨_, rfl⟩) (hd : Datum.depth α ≤ 8 := by decide) (hs : NoSl b := by intro _ _; rfl) : DW G X (.Subscript a b pos) r (.dat (.int n)) := by
  have hu := on_units0 (G := G) (X := X) (n := 9) (by decide)
  obtain ⟨⟨CT, CB, rfl⟩, _⟩ := o
  refine ⟨fun pins s σ H Q I hq => ?_⟩
  obtain ⟨O, f, q⟩ := hq
  refine subD_of PySem.F.slot_dict_getitem.lookup hs (thn (ha.run pins s σ H (fun v H1 => Gr H H1 ∧ Rep ⟨X.prog, X.w, X.K, X.mg, X.base, CT, CB⟩ H1 v (Dd kvs)) I ⟨O, f, fun v H1 g1 r1 => ⟨g1, r1⟩⟩) fun u s1 ⟨x, H1, I1, rx, g1, r1⟩ =>
    thn (hb.run pins s1 σ H1 (fun v H2 => Gr H1 H2 ∧ Rep ⟨X.prog, X.w, X.K, X.mg, X.base, CT, CB⟩ H2 v (D k)) I1 ⟨O, f.gr g1, fun v H2 g2 r2 => ⟨g2, r2⟩⟩) fun iv s2 ⟨y, H2, I2, ry, g2, r2⟩ => ?_)
  obtain ⟨l, xs, rfl, h1, h2⟩ := rep_gr (d := Dd kvs) g2 r1
  cases rx
  have hD := dict_of I2 h1 h2
  have r2' : Dp X.K H2 y (toD k) := r2
  obtain ⟨es, et⟩ := ht
  have hN := nested_of I2 _ y iv (Ky.key k) r2' ry
  rw [et] at r2'
  obtain ⟨t, ws, rfl, _, _⟩ := dp_tup r2'
  cases ry
  have hlk : dlook (dk kvs) (nk k) = some n := (dlook_dk k kvs).trans h
  obtain ⟨a', t', ea⟩ := dlook_at h2 hlk
  have hdep : (nk k).depth ≤ 8 := by
    unfold nk
    rw [kd_depth _ (Ky.key k)]
    exact Nat.le_trans (Datum.depth_le k) hd
  refine ⟨hD.typeIs, wpAny_getItem_heap (knd := nestedKind X.prog X.w) (by show X.A.units + 1 + 8 < cLine; omega) ⟨hN, hdep⟩ hD ea ?_⟩
  exact ⟨.int n, H2, I2.tok _, ⟨t', rfl⟩, q _ H2 (g1.trans g2) (.int n)⟩

/-! ### fields -/
theorem lookup_rows (t : Addr) : (fRows t).lookup ("rows" : Str) = some (.ref t) := by
  unfold fRows
  rw [lookup_putF, if_pos rfl]
theorem lookup_ties (t : Addr) : (fTies t).lookup ("ties" : Str) = some (.ref t) := by
  unfold fTies
  rw [lookup_putF, if_pos rfl]
theorem lookup_tiesN (t : Addr) {m : Str} (h : ¬ m = "ties") : (fTies t).lookup m = none := by
  unfold fTies
  rw [lookup_putF, if_neg h]
  rfl
theorem lookup_rowsN (t : Addr) {m : Str} (h : ¬ m = "rows") : (fRows t).lookup m = none := by
  unfold fRows
  rw [lookup_putF, if_neg h]
  rfl
theorem dw_rows [o : On G X lv] {rows : List Row} (ha : DW G X a r (.tab rows)) (hb : attributeBase a "rows" X.env (eval a X.env) = eval a X.env := by rfl) : DW G X (.Attribute a "rows" pos) r (D (Tup.mk rows)) := by
  obtain ⟨⟨CT, CB, rfl⟩, _, _, _, gl⟩ := o
  exact lift (pe_fld ha hb) fun σ H Q ⟨O, f, q⟩ => ⟨O, f, fun v H1 g1 r1 => by
    obtain ⟨l, dx, t, rfl, h1, h2, _⟩ := r1
    exact ⟨l, CT, dx, _, .ref t, rfl, h1, gl.clT, gl.naT, lookup_rows t, q _ H1 g1 h2⟩⟩
theorem dw_ties [o : On G X lv] {ts : List PyData} (ha : DW G X a r (.bnd ts)) (hb : attributeBase a "ties" X.env (eval a X.env) = eval a X.env := by rfl) : DW G X (.Attribute a "ties" pos) r (.dat (.list ts)) := by
  obtain ⟨⟨CT, CB, rfl⟩, _, _, _, gl⟩ := o
  exact lift (pe_fld ha hb) fun σ H Q ⟨O, f, q⟩ => ⟨O, f, fun v H1 g1 r1 => by
    obtain ⟨l, dx, t, xs, rfl, h1, h2, h3⟩ := r1
    exact ⟨l, CB, dx, _, .ref t, rfl, h1, gl.clB, gl.naB, lookup_ties t, q _ H1 g1 (.lst (.of h2) h3)⟩⟩

/-- o.rows.count(x), o a Table: the receiver's own object is known -/
theorem pe_bmF {to : TE} {rr : V → List V → Hp → VK → Prop} {o : Expr} {t : TA} {T id : String} {name : Str} {apos cpos : Pos} (pa : PlainAttrs T) (slot : PySem.Slot T name id) (hty : typeOf (.builtin id) = pure (.type "method_descriptor")) (hm : MtR X id rr) (ho : PE X o to) (ha : PA X (e :: es) t)
    (hbase : attributeBase o name X.env (eval o X.env) = eval o X.env := by rfl)
    (hfew : ((backTo cpos (starEach (e :: es) X.env)).all (fun x => !x.1) && (backToKw cpos (keywordEach [] X.env)).all (fun x => x.1.isSome)
      && decide ((e :: es).length + ([] : List Keyword).length + (if ([] : List Keyword).isEmpty then 0 else 1) < 30)) = true := by rfl)
    (hline : (apos.endLine == cpos.line) = true := by rfl) (hs : starEach (e :: es) X.env = (false, eval e X.env) :: starEach es X.env := by rfl) (hplain : (backTo cpos (starEach es X.env)).any (·.1) = false := by rfl) :
    PE X (.Call (.Attribute o name apos) (e :: es) [] cpos) (fun σ H Q => to σ H fun x H1 => (∃ a ob u, x = .ref a ∧ H1 a = some (.frz ob u) ∧ ob.cls = .type T ∧ ob.dict = none) ∧ t σ H1 fun xs H2 => rr x xs H2 Q) := by
  refine ⟨fun pins s σ H Q I h => ?_⟩
  refine wpAny_Call_method_late hbase hfew hline rfl (thn (ho.run pins s σ H _ I h) fun v s1 ⟨x, H1, I1, r1, ty, q1⟩ => ?_)
  obtain ⟨a, ob, u, rfl, h1, h2, h3⟩ := ty
  obtain ⟨h4, _⟩ := (show ObjOk X.prog X.w H1 s1.heap a (.frz ob u) from I1.hok a _ h1)
  cases r1
  refine ⟨T, id, pa, slot, hty, ⟨ob, h4, h2⟩, fun b e => by cases e; exact ⟨ob, h4, h3⟩, ?_⟩
  have hA := ha.run cpos pins s1 σ H1 _ I1 q1
  rw [hs] at hA ⊢
  refine Calls.callWith_builtin (by show (false || (backTo cpos (starEach es X.env)).any (·.1)) = false; rw [hplain] <;> rfl) (Calls.evalArgs_plain ?_)
  exact thn hA fun us s2 ⟨vs, H2, I2, r2, q2⟩ => hm pins s2 σ H2 (V.ref a) vs (Value.ref a) us Q I2 rfl r2 q2

/-! ### calls -/
/-- a def's promise by data: R says which arguments it serves and what it gives -/
def spR (G : Gx) (R : List XD → XD → Prop) : Sp := fun vs H Q _ => ∃ ds d, RepAll G H vs ds ∧ R ds d ∧ ∀ v H', Gr H H' → Rep G H' v d → Q v H'
structure Def (G : Gx) (k : Nat) (x : Str) (R : List XD → XD → Prop) : Prop where
  ok : ∃ (f : Addr) (fd : FuncData) (ps : List Str), FnOk G.P G.w G.K G.mg G.base CX0 k f fd ps (spR G R) ∧ G.mg x = some (.ref f) ∧ PySem.W.keepIn G.K (.ref f) = true ∧ Binds G.K fd ps []
theorem dw_call [o : On G X lv] {k : Nat} {x : Str} {R : List XD → XD → Prop} (F : Def G k x R) (ha : DA G X (e :: es) r ds) (hR : R ds d) (hk : k ≤ lv := by decide) (hg : Gl X x := by rfl) (hdb : (x == ("__debug__" : Str)) = false := by decide) (he : starEach (e :: es) X.env = (false, eval e X.env) :: starEach es X.env := by rfl)
    (hpl : (backTo pos (starEach es X.env)).any (·.1) = false := by rfl) : DW G X (.Call (.Name x p) (e :: es) [] pos) r d := by
  obtain ⟨⟨CT, CB, rfl⟩, _, hr, _, gl⟩ := o
  obtain ⟨f, fd, ps, F1, hm, hkp, hb⟩ := F.ok
  exact lift (pe_call F1 (hr.mono hk) hg hm hkp hb .nil pass0 ha hdb he hpl) fun σ H Q ⟨O, f, q⟩ => ⟨O, f, fun vs H1 g1 r1 => ⟨ds, d, by rw [List.append_nil]; exact r1, hR, fun v H2 g2 r2 => q v H2 (g1.trans g2) r2⟩⟩
/-- a method of the class Bound -/
structure DefB (G : Gx) (k : Nat) (m : Str) (R : List XD → XD → Prop) : Prop where
  ok : ∃ (f : Addr) (fd : FuncData) (ps : List Str), FnOk G.P G.w G.K G.mg G.base CX0 k f fd ps (spR G R) ∧ Meth G.K G.CB m f ∧ Binds G.K fd ps []
structure DefT (G : Gx) (k : Nat) (m : Str) (R : List XD → XD → Prop) : Prop where
  ok : ∃ (f : Addr) (fd : FuncData) (ps : List Str), FnOk G.P G.w G.K G.mg G.base CX0 k f fd ps (spR G R) ∧ Meth G.K G.CT m f ∧ Binds G.K fd ps []
theorem dw_methB [o : On G X lv] {k : Nat} {m : Str} {R : List XD → XD → Prop} {ts : List PyData} {apos : Pos} {pl : Sem Bool} (F : DefB G k m R) (ho : DW G X a r (.bnd ts)) (ha : DA G X (e :: es) r ds) (hR : R (.bnd ts :: ds) d) (hm : ¬ m = "ties" := by decide +kernel) (hk : k ≤ lv := by decide)
    (he : starEach (e :: es) X.env = (false, eval e X.env) :: starEach es X.env := by rfl) (hpl : (backTo pos (starEach es X.env)).any (·.1) = false := by rfl)
    (ht : eval (.Call (.Attribute a m apos) (e :: es) [] pos) X.env = (do
      let ov ← eval a X.env
      standAt apos.atName
      let (f, first) ← holding [ov] (getMethod ov m pl)
      callWith pos f first (backTo pos (starEach (e :: es) X.env)) (backToKw pos (keywordEach [] X.env))) := by rfl) : DW G X (.Call (.Attribute a m apos) (e :: es) [] pos) r d := by
  obtain ⟨⟨CT, CB, rfl⟩, _, hr, _, gl⟩ := o
  obtain ⟨f, fd, ps, F1, M, hb⟩ := F.ok
  exact lift (pe_meth (pl := pl) ho gl.clB M F1 (hr.mono hk) hb .nil pass0 ha he hpl ht) fun σ H Q ⟨O, f, q⟩ => ⟨O, f, fun v H1 g1 r1 => by
    obtain ⟨l, dx, t, xs, rfl, h1, h2, h3⟩ := id r1
    exact ⟨l, dx, _, rfl, h1, lookup_tiesN t hm, O, f.gr g1, fun vs H2 g2 r2 => ⟨.bnd ts :: ds, d, by rw [List.append_nil]; exact .cons (rep_gr (d := .bnd ts) g2 r1) r2, hR, fun v H3 g3 r3 => q v H3 ((g1.trans g2).trans g3) r3⟩⟩⟩
theorem dw_methT0 [o : On G X lv] {k : Nat} {m : Str} {R : List XD → XD → Prop} {ts : List Row} {apos : Pos} {pl : Sem Bool} (F : DefT G k m R) (ho : DW G X a r (.tab ts)) (hR : R [.tab ts] d) (hm : ¬ m = "rows" := by decide +kernel) (hk : k ≤ lv := by decide)
    (ht : eval (.Call (.Attribute a m apos) [] [] pos) X.env = (do
      let ov ← eval a X.env
      standAt apos.atName
      let (f, first) ← holding [ov] (getMethod ov m pl)
      callWith pos f first (backTo pos (starEach [] X.env)) (backToKw pos (keywordEach [] X.env))) := by rfl) : DW G X (.Call (.Attribute a m apos) [] [] pos) r d := by
  obtain ⟨⟨CT, CB, rfl⟩, _, hr, _, gl⟩ := o
  obtain ⟨f, fd, ps, F1, M, hb⟩ := F.ok
  exact lift (pe_meth0 (pl := pl) ho gl.clT M F1 (hr.mono hk) hb .nil pass0 ht) fun σ H Q ⟨O, f, q⟩ => ⟨O, f, fun v H1 g1 r1 => by
    obtain ⟨l, dx, t, rfl, h1, _⟩ := id r1
    exact ⟨l, dx, _, rfl, h1, lookup_rowsN t hm, ⟨[.tab ts], d, .cons r1 .nil, hR, fun v H3 g3 r3 => q v H3 (g1.trans g3) r3⟩⟩⟩

/-! ### new instances -/
/-- Bound.__init__: the list is copied -/
def spInitB (G : Gx) : Sp := fun vs H Q _ => ∃ x dx v ts, vs = [.ref x, v] ∧ H x = some (.ins G.CB dx []) ∧ Dp G.K H v (.list ts) ∧ ims ts = true ∧ ∀ H' l xs, (∀ b o, b ≠ x → H b = some o → H' b = some o) → H' x = some (.ins G.CB dx (fTies l)) → H l = none → H' l = some (.lst xs) → DpAll G.K H' xs ts → Q .non H'
/-- Table.__init__: the rows become a tuple -/
def spInitT (G : Gx) (ok : List Row → Prop) : Sp := fun vs H Q _ => ∃ x dx v rows, vs = [.ref x, v] ∧ H x = some (.ins G.CT dx []) ∧ Dp G.K H v (.list (Ds rows)) ∧ ok rows ∧ ∀ H' t, (∀ b o, b ≠ x → H b = some o → H' b = some o) → H' x = some (.ins G.CT dx (fRows t)) → Dp G.K H' (.ref t) (.tuple (Ds rows)) → (∃ ob u, H' t = some (.frz ob u) ∧ ob.cls = .type "tuple" ∧ ob.dict = none) → Q .non H'
structure MkB (G : Gx) (k : Nat) : Prop where
  ok : ∃ (f : Addr) (fd : FuncData) (ps : List Str), FnOk G.P G.w G.K G.mg G.base CX0 k f fd ps (spInitB G) ∧ Mk G.K G.CB f ∧ Binds G.K fd ps []
structure MkT (G : Gx) (k : Nat) (ok : List Row → Prop) : Prop where
  ok : ∃ (f : Addr) (fd : FuncData) (ps : List Str), FnOk G.P G.w G.K G.mg G.base CX0 k f fd ps (spInitT G ok) ∧ Mk G.K G.CT f ∧ Binds G.K fd ps []
theorem new_le {H1 H2 : Hp} {x dx : Addr} {o1 o2 : HO} (hx : H1 x = none) (hdx : H1 dx = none) (h : ∀ b o, b ≠ x → (upd (upd H1 dx o1) x o2) b = some o → H2 b = some o) : Gr H1 H2 := fun b o e => by
  have nb : b ≠ x := fun z => by rw [z, hx] at e; cases e
  have nd : b ≠ dx := fun z => by rw [z, hdx] at e; cases e
  exact h b o nb (by rw [upd_ne nb, upd_ne nd]; exact e)
/-- Bound(e): a new one, that leans on nothing of one's own -/
theorem de_mkB [o : On G X lv] {k : Nat} {ts : List PyData} (M : MkB G k) (ha : DW G X e r (.dat (.list ts))) (hi : ims ts = true) (hk : k + 1 ≤ lv := by decide) (hg : Gl X "Bound" := by rfl) (he : starEach [e] X.env = [(false, eval e X.env)] := by rfl) (hpl : (backTo pos (starEach [] X.env)).any (·.1) = false := by rfl) :
    DE G X (.Call (.Name "Bound" p) [e] [] pos) r (.bnd ts) := by
  obtain ⟨⟨CT, CB, rfl⟩, _, hr, _, gl⟩ := o
  obtain ⟨f, fd, ps, F1, M1, hb⟩ := M.ok
  exact lift (pe_make M1 F1 (hr.mono hk) hg gl.bound hb .nil pass0 (da_one ha he) (by decide) he hpl) fun σ H Q ⟨O, f, q⟩ => ⟨O, f, fun vs H1 g1 r1 => by
    obtain ⟨v, rfl, r2⟩ := rep1 r1
    intro x dx hx hdx hne
    have g0 : Gr H1 (upd (upd H1 dx (.own x)) x (.ins CB dx [])) := fun b o e => by
      rw [upd_ne (ne_of_none e hx), upd_ne (ne_of_none e hdx)]
      exact e
    refine ⟨x, dx, v, ts, rfl, upd_same, dp_gr g0 _ _ r2, hi, fun H2 l xs h1 h2 h3 h4 h5 => ⟨rfl, ?_⟩⟩
    have g2 : Gr H1 H2 := new_le hx hdx h1
    have f2 := f.gr (g1.trans g2)
    have nO : ∀ b, H1 b = none → b ∉ O := fun b hb z => by
      obtain ⟨o, e3, _⟩ := f.tr b z
      rw [g1.back hb] at e3
      cases e3
    have hl : H1 l = none := g0.back h3
    refine q _ H2 (g1.trans g2) ⟨x, dx, l, xs, rfl, (hid_out (nO x hx)).trans h2, (hid_out (nO l hl)).trans h4, dps_tk f2.tk ts xs hi h5⟩⟩
theorem dw_mkT [o : On G X lv] {k : Nat} {ok : List Row → Prop} {rows : List Row} (M : MkT G k ok) (ha : DW G X e r (D rows)) (hi : ok rows) (hk : k + 1 ≤ lv := by decide) (hg : Gl X "Table" := by rfl) (he : starEach [e] X.env = [(false, eval e X.env)] := by rfl) (hpl : (backTo pos (starEach [] X.env)).any (·.1) = false := by rfl) :
    DW G X (.Call (.Name "Table" p) [e] [] pos) r (.tab rows) := by
  obtain ⟨⟨CT, CB, rfl⟩, _, hr, _, gl⟩ := o
  obtain ⟨f, fd, ps, F1, M1, hb⟩ := M.ok
  exact lift (pe_make M1 F1 (hr.mono hk) hg gl.table hb .nil pass0 (da_one ha he) (by decide) he hpl) fun σ H Q ⟨O, f, q⟩ => ⟨O, f, fun vs H1 g1 r1 => by
    obtain ⟨v, rfl, r2⟩ := rep1 r1
    intro x dx hx hdx hne
    have g0 : Gr H1 (upd (upd H1 dx (.own x)) x (.ins CT dx [])) := fun b o e => by
      rw [upd_ne (ne_of_none e hx), upd_ne (ne_of_none e hdx)]
      exact e
    refine ⟨x, dx, v, rows, rfl, upd_same, dp_gr g0 _ _ r2, hi, fun H2 t h1 h2 h5 h6 => ⟨rfl, ?_⟩⟩
    have g2 : Gr H1 H2 := new_le hx hdx h1
    exact q _ H2 (g1.trans g2) ⟨x, dx, t, rfl, h2, h5, h6⟩⟩
end
end RC

/-! RcH: walks, targets, list comprehensions, by data. -/
namespace RC
open PySem L2
open PySem.W (Datum DatumOrd Tup T3 Holds HoldAll minOf maxOf EachIs)

/-! ### environments changed -/
def DEnv.put (r : DEnv) (i : Nat) (s : Slot) : DEnv := { r with sl := r.sl.set i (some s) }
def wipeL (l : List (Option Slot)) : List Nat → List (Option Slot)
  | [] => l
  | v :: vs => (wipeL l vs).set v none
def DEnv.wipe (r : DEnv) (vs : List Nat) : DEnv := { r with sl := wipeL r.sl vs }
section
variable {G : Gx} {O : List Addr} {H H' : Hp} {σ : L2.St} {r : DEnv} {v : V}
theorem set_get {α : Type} {l : List α} {i j : Nat} {x y : α} (h : (l.set i x)[j]? = some y) : (i = j ∧ x = y) ∨ (i ≠ j ∧ l[j]? = some y) := by
  by_cases e : i = j
  · subst e
    by_cases hi : i < l.length
    · rw [List.getElem?_set_self hi] at h
      exact .inl ⟨rfl, Option.some.inj h⟩
    · rw [List.getElem?_eq_none (by simpa using hi)] at h
      cases h
  · rw [List.getElem?_set_ne e] at h
    exact .inr ⟨e, h⟩
theorem Fit.put (f : Fit G O H σ r) (i : Nat) {d : XD} (h : Rep G (hid O H) v d) : Fit G O H (σ.set i (some v)) (r.put i (.x d)) where
  len := by
    show (σ.set i (some v)).length = (r.sl.set i (some (Slot.x d))).length
    rw [List.length_set, List.length_set]
    exact f.len
  at_ := fun j s hs => by
    rcases set_get (show (r.sl.set i (some (Slot.x d)))[j]? = some (some s) from hs) with ⟨rfl, e⟩ | ⟨ne, e⟩
    · cases e
      have hi : i < r.sl.length := by
        have := (List.getElem?_eq_some_iff.mp hs).1
        simpa [DEnv.put] using this
      exact ⟨v, List.getElem?_set_self (by rw [f.len]; exact hi), h⟩
    · obtain ⟨u, e1, q⟩ := f.at_ j s e
      exact ⟨u, (List.getElem?_set_ne ne).trans e1, q⟩
  dis := fun j k s t hs ht os ot ne => by
    rcases set_get (show (r.sl.set i (some (Slot.x d)))[j]? = some (some s) from hs) with ⟨rfl, e⟩ | ⟨n1, e1⟩
    · cases e
      cases os
    · rcases set_get (show (r.sl.set i (some (Slot.x d)))[k]? = some (some t) from ht) with ⟨rfl, e⟩ | ⟨n2, e2⟩
      · cases e
        cases ot
      · rw [List.getElem?_set_ne n1, List.getElem?_set_ne n2]
        exact f.dis j k s t e1 e2 os ot ne
  tr := f.tr
  pu := f.pu
theorem Fit.wipe1 (f : Fit G O H σ r) (i : Nat) : Fit G O H (σ.set i none) { r with sl := r.sl.set i none } where
  len := by
    show (σ.set i none).length = (r.sl.set i none).length
    rw [List.length_set, List.length_set]
    exact f.len
  at_ := fun j s hs => by
    rcases set_get (show (r.sl.set i none)[j]? = some (some s) from hs) with ⟨rfl, e⟩ | ⟨ne, e⟩
    · cases e
    · obtain ⟨u, e1, q⟩ := f.at_ j s e
      exact ⟨u, (List.getElem?_set_ne ne).trans e1, q⟩
  dis := fun j k s t hs ht os ot ne => by
    rcases set_get (show (r.sl.set i none)[j]? = some (some s) from hs) with ⟨rfl, e⟩ | ⟨n1, e1⟩
    · cases e
    · rcases set_get (show (r.sl.set i none)[k]? = some (some t) from ht) with ⟨rfl, e⟩ | ⟨n2, e2⟩
      · cases e
      · rw [List.getElem?_set_ne n1, List.getElem?_set_ne n2]
        exact f.dis j k s t e1 e2 os ot ne
  tr := f.tr
  pu := f.pu
theorem Fit.wipe (f : Fit G O H σ r) : ∀ vs : List Nat, Fit G O H (L2.wipe σ vs) (r.wipe vs)
  | [] => f
  | v :: vs => (Fit.wipe f vs).wipe1 v
end
theorem wipe_set_in {σ : L2.St} {i : Nat} {x : Option V} : ∀ {vs : List Nat}, i ∈ vs → L2.wipe (σ.set i x) vs = L2.wipe σ vs
  | [], h => by cases h
  | v :: vs, h => by
    unfold L2.wipe
    by_cases hi : i ∈ vs
    · rw [wipe_set_in hi]
    · have e : i = v := by
        rcases List.mem_cons.mp h with e | e
        · exact e
        · exact absurd e hi
      subst e
      have : ∀ {us : List Nat}, i ∉ us → L2.wipe (σ.set i x) us = (L2.wipe σ us).set i x := by
        intro us
        induction us with
        | nil => intro _; rfl
        | cons u us ih =>
          intro hn
          unfold L2.wipe
          rw [ih fun z => hn (List.mem_cons_of_mem _ z)]
          exact (List.set_comm _ _ (fun e : i = u => hn (e ▸ List.mem_cons_self)))
      rw [this hi, List.set_set]
theorem wipe_wipe {σ : L2.St} {vs : List Nat} : ∀ {us : List Nat}, (∀ u, u ∈ us → u ∈ vs) → L2.wipe (L2.wipe σ us) vs = L2.wipe σ vs
  | [], _ => rfl
  | u :: us, h => by
    have e : L2.wipe σ (u :: us) = (L2.wipe σ us).set u none := rfl
    rw [e, wipe_set_in (h u List.mem_cons_self), wipe_wipe fun z hz => h z (List.mem_cons_of_mem _ hz)]

/-! ### targets -/
inductive Tg where
  | one (i : Nat)
  | tup (is : List Nat)
def Tg.slots : Tg → List Nat
  | .one i => [i]
  | .tup is => is
def gs : List Nat → TGs
  | [] => gNil
  | i :: is => gCons (gName i) (gs is)
def tgR (K : PySem.W.Frag) : Tg → TG
  | .one i => gName i
  | .tup is => gTup K is.length (gs is)
def putAll (r : DEnv) : List Nat → List PyData → DEnv
  | i :: is, d :: ds => putAll (r.put i (.x (.dat d))) is ds
  | _, _ => r
def bindE (r : DEnv) : Tg → XD → DEnv
  | .one i, d => r.put i (.x d)
  | .tup is, .dat (.tuple ds) => putAll r is ds
  | .tup _, _ => r
def tgOk : Tg → XD → Prop
  | .one _, _ => True
  | .tup is, .dat (.tuple ds) => ds.length = is.length
  | .tup _, _ => False
section
variable {G : Gx} {O : List Addr}
theorem gs_go {H : Hp} {Q : L2.St → Hp → Prop} : ∀ {is : List Nat} {ds : List PyData} {vs : List V} {σ : L2.St} {r : DEnv}, Fit G O H σ r → DpAll G.K (hid O H) vs ds → ds.length = is.length →
    (∀ σ', Fit G O H σ' (putAll r is ds) → (∀ us : List Nat, (∀ i, i ∈ is → i ∈ us) → L2.wipe σ' us = L2.wipe σ us) → Q σ' H) → gs is vs σ H Q
  | [], [], _, σ, r, f, h, _, k => by
    cases h
    exact ⟨rfl, k σ f fun _ _ => rfl⟩
  | [], _ :: _, _, _, _, _, _, e, _ => by simp at e
  | _ :: _, [], _, _, _, _, _, e, _ => by simp at e
  | i :: is, d :: ds, _, σ, r, f, h, e, k => by
    cases h with
    | cons h1 h2 =>
      refine ⟨_, _, rfl, gs_go (f.put i (d := .dat d) h1) h2 (by simpa using e) fun σ' f' w => k σ' f' fun us hu => ?_⟩
      rw [w us fun j hj => hu j (List.mem_cons_of_mem _ hj), wipe_set_in (hu i List.mem_cons_self)]
theorem tgR_go {H : Hp} {Q : L2.St → Hp → Prop} {t : Tg} {d : XD} {v : V} {σ : L2.St} {r : DEnv} (f : Fit G O H σ r) (h : Rep G (hid O H) v d) (e : tgOk t d)
    (k : ∀ σ', Fit G O H σ' (bindE r t d) → (∀ us : List Nat, (∀ i, i ∈ t.slots → i ∈ us) → L2.wipe σ' us = L2.wipe σ us) → Q σ' H) : tgR G.K t v σ H Q := by
  cases t with
  | one i => exact k _ (f.put i h) fun us hu => wipe_set_in (hu i List.mem_cons_self)
  | tup is =>
    cases d with
    | dat d =>
      cases d with
      | tuple ds =>
        obtain ⟨a, xs, rfl, h1, h2⟩ := dp_tup h
        exact ⟨a, xs, rfl, (hid_le O H).sqT h1, (dps_len h2).trans e, gs_go f h2 e k⟩
      | _ => exact e.elim
    | _ => exact e.elim
end

/-! ### walks -/
/-- an item: it stood ahead of the walk, or it is immutable -/
def YOk (G : Gx) (O : List Addr) (H1 H3 : Hp) (v : V) (d : XD) : Prop := Rep G (hid O H1) v d ∨ (imX d = true ∧ Rep G H3 v d)
def tI (G : Gx) (r : DEnv) (ds : List XD) : TI := fun σ H R => ∃ O, Fit G O H σ r ∧ ∀ J H1, Gr H H1 → Walk J ds.length (fun H2 => Gr (hid O H1) H2) (fun i H2 v H3 => Gr H2 H3 ∧ ∃ d, ds[i]? = some d ∧ YOk G O H1 H3 v d) → R J H1
abbrev DI (G : Gx) (X : Cx) (tg iter : Expr) (r : DEnv) (ds : List XD) : Prop := PI X tg iter (tI G r ds)
theorem gr_hid {O : List Addr} {H1 H2 : Hp} (g : Gr (hid O H1) H2) : Gr (hid O H1) (hid O H2) := fun b o e => by
  have hb : b ∉ O := fun z => by rw [hid_in z] at e; cases e
  rw [hid_out hb]
  exact g b o e
theorem YOk.rep {G : Gx} {O : List Addr} {H1 H3 : Hp} {v : V} {d : XD} {σ : L2.St} {r : DEnv} (h : YOk G O H1 H3 v d) (g : Gr (hid O H1) H3) (f : Fit G O H3 σ r) : Rep G (hid O H3) v d := by
  rcases h with h | ⟨i, h⟩
  · exact rep_gr (gr_hid g) h
  · exact rep_tk f.tk i h
theorem YOk.im {G : Gx} {O : List Addr} {H1 H3 : Hp} {v : V} {d : XD} (h : YOk G O H1 H3 v d) (g : Gr (hid O H1) H3) : Rep G H3 v d := by
  rcases h with h | ⟨_, h⟩
  · exact rep_gr g h
  · exact h
section
variable {G : Gx} {X : Cx} {lv : Nat} {r : DEnv} {e a b c tg : Expr} {es : List Expr} {pos p p2 kp : Pos}
theorem liftI {iter : Expr} {t t' : TI} (h : PI X tg iter t) (k : ∀ σ H R, t' σ H R → t σ H R) : PI X tg iter t' := ⟨fun pins s σ H R I q => h.run pins s σ H R I (k _ _ _ q)⟩
theorem di_list [o : On G X lv] {ds : List PyData} (h : DE G X e r (.dat (.list ds))) : DI G X tg e r (ds.map XD.dat) := by
  obtain ⟨⟨CT, CB, rfl⟩, _⟩ := o
  refine liftI (pi_list h) fun σ H R ⟨O, f, q⟩ => ⟨O, f, fun v H1 g1 r1 => ?_⟩
  obtain ⟨l, xs, rfl, h1, h2⟩ := dp_lst r1
  refine ⟨l, rfl, ⟨xs, (hid_le O H1).sqL h1⟩, q _ H1 g1 ?_⟩
  rw [List.length_map, ← dps_len h2]
  refine walk_list.mono (fun H2 g2 => g2.sqL h1) fun i H2 v H3 _ g2 y => ?_
  obtain ⟨rfl, hv⟩ := y
  obtain ⟨d, hd, hp⟩ := dps_get h2 hv
  exact ⟨Gr.refl _, .dat d, by rw [List.getElem?_map, hd]; rfl, .inl hp⟩
theorem rep_dats {O : List Addr} {H : Hp} {v : V} {bs : List (List PyData)} (h : Rep G (hid O H) v (.bnds bs)) : ∃ a vs, v = .ref a ∧ hid O H a = some (.lst vs) ∧ Paired (fun v ds => RepB G (hid O H) v ds) vs bs := h
theorem paired_get {α β : Type} {R : α → β → Prop} : ∀ {xs : List α} {ys : List β} {i : Nat} {x : α}, Paired R xs ys → xs[i]? = some x → ∃ y, ys[i]? = some y ∧ R x y
  | _, _, _, _, .nil, h => by simp at h
  | _, _, 0, _, .cons p _, h => by simp at h; subst h; exact ⟨_, rfl, p⟩
  | _, _, i + 1, _, .cons _ t, h => paired_get (i := i) t (by simpa using h)
/-- a list of Bounds -/
theorem di_bnds [o : On G X lv] {bs : List (List PyData)} (h : DE G X e r (.bnds bs)) : DI G X tg e r (bs.map XD.bnd) := by
  obtain ⟨⟨CT, CB, rfl⟩, _⟩ := o
  refine liftI (pi_list h) fun σ H R ⟨O, f, q⟩ => ⟨O, f, fun v H1 g1 r1 => ?_⟩
  obtain ⟨l, xs, rfl, h1, h2⟩ := rep_dats r1
  refine ⟨l, rfl, ⟨xs, (hid_le O H1).sqL (.of h1)⟩, q _ H1 g1 ?_⟩
  rw [List.length_map, ← Paired.length h2]
  refine walk_list.mono (fun H2 g2 => g2.sqL (.of h1)) fun i H2 v H3 _ g2 y => ?_
  obtain ⟨rfl, hv⟩ := y
  obtain ⟨d, hd, hp⟩ := paired_get h2 hv
  exact ⟨Gr.refl _, .bnd d, by rw [List.getElem?_map, hd]; rfl, .inl hp⟩
theorem di_tup [o : On G X lv] {ds : List PyData} (h : DE G X e r (.dat (.tuple ds))) : DI G X tg e r (ds.map XD.dat) := by
  obtain ⟨⟨CT, CB, rfl⟩, _⟩ := o
  refine liftI (pi_tup h) fun σ H R ⟨O, f, q⟩ => ⟨O, f, fun v H1 g1 r1 => ?_⟩
  obtain ⟨l, xs, rfl, h1, h2⟩ := dp_tup r1
  refine ⟨l, rfl, ⟨xs, (hid_le O H1).sqT h1⟩, q _ H1 g1 ?_⟩
  rw [List.length_map, ← dps_len h2]
  refine walk_tup.mono (fun H2 g2 => g2.sqT h1) fun i H2 v H3 _ g2 y => ?_
  obtain ⟨rfl, hv⟩ := y
  obtain ⟨d, hd, hp⟩ := dps_get h2 hv
  exact ⟨Gr.refl _, .dat d, by rw [List.getElem?_map, hd]; rfl, .inl hp⟩
theorem di_range [o : On G X lv] {n : Int} (h : DW G X a r (.dat (.int n))) (hn : 0 ≤ n ∧ n < 100000) (hg : Gl X "range" := by rfl) (hs : starEach [a] X.env = [(false, eval a X.env)] := by rfl) :
    DI G X tg (.Call (.Name "range" p) [a] [] pos) r ((List.range n.toNat).map fun (i : Nat) => XD.dat (.int i)) := by
  obtain ⟨⟨CT, CB, rfl⟩, _, _, _, gl⟩ := o
  refine liftI (pi_range1 hg gl.range (da_one h hs) hs) fun σ H R ⟨O, f, q⟩ => ⟨O, f, fun vs H1 g1 r1 => ?_⟩
  obtain ⟨v, rfl, h1⟩ := rep1 r1
  refine ⟨n, by rw [dp_int h1], by omega, by omega, q _ H1 g1 ?_⟩
  rw [List.length_map, List.length_range]
  refine walk_range.mono (fun _ _ => True.intro) fun i H2 v H3 hi g2 y => ?_
  obtain ⟨rfl, hv⟩ := y
  refine ⟨Gr.refl _, .dat (.int i), by rw [List.getElem?_map, List.getElem?_range hi]; rfl, .inr ⟨rfl, ?_⟩⟩
  have hv' : v = V.int (0 + (i : Int)) := hv
  rw [hv', Int.zero_add]
  exact .int _
theorem di_enum [o : On G X lv] {ds : List PyData} {elts : List Expr} {kk : Nat} {tpos : Pos} (h : DE G X a r (.dat (.list ds))) (him : ims ds = true) (hg : Gl X "enumerate" := by rfl) (hs : starEach [a] X.env = [(false, eval a X.env)] := by rfl) :
    DI G X (.Tuple elts kk tpos) (.Call (.Name "enumerate" p) [a] [] pos) r ((List.range ds.length).map fun (i : Nat) => XD.dat (.tuple [.int i, ds.getD i .none])) := by
  obtain ⟨⟨CT, CB, rfl⟩, _, _, _, gl⟩ := o
  have ha : PA X [a] (fun σ H Q => ∃ O, Fit ⟨X.prog, X.w, X.K, X.mg, X.base, CT, CB⟩ O H σ r ∧ ∀ v H', Gr H H' → Dp X.K (hid O H') v (.list ds) → Q [v] H') :=
    liftA (pa_cons h pa_nil hs) fun σ H Q ⟨O, f, q⟩ => ⟨O, f, fun v H1 g1 r1 => q v H1 g1 r1⟩
  refine liftI (pi_enum hg gl.enumerate ha hs) fun σ H R ⟨O, f, q⟩ => ⟨O, f, fun v H1 g1 r1 => ?_⟩
  obtain ⟨l, xs, rfl, h1, h2⟩ := dp_lst r1
  refine ⟨l, xs, rfl, (hid_le O H1).sqL h1, q _ H1 g1 ?_⟩
  rw [List.length_map, List.length_range, ← dps_len h2]
  refine walk_enum.mono (fun H2 g2 => g2.sqL h1) fun i H2 v H3 hi g2 y => ?_
  obtain ⟨T, x, z, rfl, hT, rfl, hx, hz⟩ := y
  have hx' : x = V.int (i : Nat) := (Option.some.inj hx).symm
  obtain ⟨d, hd, hp⟩ := dps_get h2 hz
  refine ⟨Gr.new hT, .dat (.tuple [.int i, ds.getD i .none]), ?_, .inr ⟨?_, .tup (.of upd_same) (.cons ?_ (dps_one ?_))⟩⟩
  · rw [List.getElem?_map, List.getElem?_range (by have := dps_len h2; omega)]
    rfl
  · have e : ds.getD i .none = d := by simp [List.getD, hd]
    have e2 : im d = true := ims_mem him (List.mem_of_getElem? hd)
    show im (.tuple [.int i, ds.getD i .none]) = true
    rw [e]
    simp only [im, ims, e2, Bool.and_self]
  · rw [hx']
    exact .int _
  · have e : ds.getD i .none = d := by simp [List.getD, hd]
    rw [e]
    exact dp_gr (g2.trans (Gr.new hT)) d z hp
/-- zip of two lists -/
theorem di_zipL [o : On G X lv] {ds ds2 : List PyData} {elts : List Expr} {kk : Nat} {tpos : Pos} (h : DE G X a r (.dat (.list ds))) (h' : DE G X b r (.dat (.list ds2))) (him : ims ds = true) (him2 : ims ds2 = true) (hg : Gl X "zip" := by rfl) (hs : starEach [a, b] X.env = (false, eval a X.env) :: starEach [b] X.env := by rfl)
    (hs2 : starEach [b] X.env = [(false, eval b X.env)] := by rfl) (hpl : (backTo pos (starEach [b] X.env)).any (·.1) = false := by rfl) :
    DI G X (.Tuple elts kk tpos) (.Call (.Name "zip" p) [a, b] [] pos) r ((ds.zip ds2).map fun q => XD.dat (.tuple [q.1, q.2])) := by
  obtain ⟨⟨CT, CB, rfl⟩, _, _, _, gl⟩ := o
  have ha : PA X [a, b] (fun σ H Q => ∃ O, Fit ⟨X.prog, X.w, X.K, X.mg, X.base, CT, CB⟩ O H σ r ∧ ∀ v u H', Gr H H' → Dp X.K (hid O H') v (.list ds) → Dp X.K (hid O H') u (.list ds2) → Q [v, u] H') :=
    liftA (pa_cons h (pa_cons h' pa_nil hs2) hs) fun σ H Q ⟨O, f, q⟩ => ⟨O, f, fun v H1 g1 r1 => ⟨O, f.gr g1, fun u H2 g2 r2 => q v u H2 (g1.trans g2) (dp_gr (hid_gr g2) _ _ r1) r2⟩⟩
  refine liftI (pi_zip hg gl.zip ha hs hpl) fun σ H R ⟨O, f, q⟩ => ⟨O, f, fun v u H1 g1 r1 r2 => ?_⟩
  obtain ⟨l, xs, rfl, h1, h2⟩ := dp_lst r1
  obtain ⟨l2, ys, rfl, h3, h4⟩ := dp_lst r2
  refine ⟨l, l2, xs, ys, rfl, (hid_le O H1).sqL h1, (hid_le O H1).sqL h3, q _ H1 g1 ?_⟩
  rw [List.length_map, List.length_zip]
  refine (walk_zip (xs := xs) (ys := ys) (by rw [dps_len h2, dps_len h4])).mono (fun H2 g2 => ⟨g2.sqL h1, g2.sqL h3⟩) fun i H2 v H3 hi g2 y => ?_
  obtain ⟨T, x, z, rfl, hT, rfl, hx, hz⟩ := y
  obtain ⟨d, hd, hp⟩ := dps_get h2 hx
  obtain ⟨d2, hd2, hp2⟩ := dps_get h4 hz
  refine ⟨Gr.new hT, .dat (.tuple [d, d2]), ?_, .inr ⟨?_, .tup (.of upd_same) (.cons (dp_gr (g2.trans (Gr.new hT)) d x hp) (dps_one (dp_gr (g2.trans (Gr.new hT)) d2 z hp2)))⟩⟩
  case refine_2 =>
    have e2 : im d = true := ims_mem him (List.mem_of_getElem? hd)
    have e3 : im d2 = true := ims_mem him2 (List.mem_of_getElem? hd2)
    show im (.tuple [d, d2]) = true
    simp only [im, ims, e2, e3, Bool.and_self]
  rw [List.getElem?_map, List.getElem?_zip_eq_some (z := (d, d2)) |>.mpr ⟨hd, hd2⟩]
  rfl

/-! ### list comprehensions -/
theorem dg_one (nd : X.N.Nodup) (i : Nat) {x : Str} (hi : X.N[i]? = some x := by rfl) (hx : Loc X.env.scope x := by first | exact Or.inl rfl | exact Or.inr rfl) (hf : X.fn x = true ∨ X.env.scope.names.lookup x = some .local := by first | exact .inl rfl | exact .inr rfl) : PG X (.Name x pos) (tgR X.K (.one i)) :=
  pg_name nd hi hx hf
theorem dg_nil : PGs X [] (gs []) := pgs_nil
theorem dg_cons (nd : X.N.Nodup) (i : Nat) {is : List Nat} {x : Str} (h2 : PGs X es (gs is)) (hi : X.N[i]? = some x := by rfl) (hx : Loc X.env.scope x := by first | exact Or.inl rfl | exact Or.inr rfl) (hf : X.fn x = true ∨ X.env.scope.names.lookup x = some .local := by first | exact .inl rfl | exact .inr rfl)
    (hs : (assignEach (.Name x pos :: es) X.env).map (·.2) = assign (.Name x pos) X.env :: (assignEach es X.env).map (·.2) := by rfl) : PGs X (.Name x pos :: es) (gs (i :: is)) :=
  pgs_cons (pg_name nd hi hx hf) h2 hs
theorem dg_tup (hc : X.calm = true) {is : List Nat} {k : Nat} (h : PGs X es (gs is)) (hn : (assignEach es X.env).length = is.length := by rfl) (hst : (assignEach es X.env).findIdx? (·.1) = none := by rfl) : PG X (.Tuple es k pos) (tgR X.K (.tup is)) :=
  pg_tup hc h hn hst
end
section
variable {G : Gx} {X : Cx} {lv : Nat} {r : DEnv} {elt tg iter tg1 iter1 : Expr} {ifs ifs1 : List Expr} {scope : Scope} {own : List (Str × Nat)} {pos : Pos} {α β : Type}
/-- the block's context -/
abbrev Blk (X : Cx) (scope : Scope) (s : Shared) (H : Hp) (C : Addr) (cl : List (Str × Addr)) (fp : List Addr) : Cx := X.blk s H scope (compEnvC scope cl C X.env) fp
/-- the reading of a comprehension by data -/
theorem lc_core [o : On G X lv] {t : Tg} (xs : List α) (en : α → XD) (pr : α → Bool) (f : α → PyData) {vs : List Nat} (hv : ∀ i, i ∈ t.slots → i ∈ vs)
    (ht : ∀ s H C cl fp x, x ∈ xs → PTs (Blk X scope s H C cl fp) ifs (tT G (bindE (r.wipe vs) t (en x)) (pr x)))
    (he : ∀ s H C cl fp x, x ∈ xs → pr x = true → DW G (Blk X scope s H C cl fp) elt (bindE (r.wipe vs) t (en x)) (.dat (f x)))
    (hm : ∀ x, x ∈ xs → tgOk t (en x)) (hf : ∀ x, x ∈ xs → pr x = true → im (f x) = true) (hz : xs.length ≤ 100000) :
    ∃ (tt : TT) (te : TE), (∀ s H C cl fp, PTs (Blk X scope s H C cl fp) ifs tt) ∧ (∀ s H C cl fp, PE (Blk X scope s H C cl fp) elt te) ∧
      ∀ σ H Q, tN G r ((xs.filter pr).map f) σ H Q → tLc (tI G r (xs.map en)) (tgR X.K t) tt te vs σ H Q := by
  obtain ⟨⟨CT, CB, rfl⟩, hc, _, nd, gl⟩ := o
  let tt : TT := fun σ H Q => ∃ x, x ∈ xs ∧ tT ⟨X.prog, X.w, X.K, X.mg, X.base, CT, CB⟩ (bindE (r.wipe vs) t (en x)) (pr x) σ H Q
  let te : TE := fun σ H Q => ∃ x, x ∈ xs ∧ pr x = true ∧ tW ⟨X.prog, X.w, X.K, X.mg, X.base, CT, CB⟩ (bindE (r.wipe vs) t (en x)) (.dat (f x)) σ H Q
  have ht' : ∀ s H C cl fp, PTs (Blk X scope s H C cl fp) ifs tt := fun s H C cl fp => ⟨fun pins s' σ H' Q I ⟨x, hx, q⟩ => (ht s H C cl fp x hx).run pins s' σ H' Q I q⟩
  have he' : ∀ s H C cl fp, PE (Blk X scope s H C cl fp) elt te := fun s H C cl fp => ⟨fun pins s' σ H' Q I ⟨x, hx, hp, q⟩ => (he s H C cl fp x hx hp).run pins s' σ H' Q I q⟩
  refine ⟨tt, te, ht', he', fun σ H Q ⟨O, fit, q⟩ => ⟨O, fit, fun J H1 g1 w => fun D hD => ?_⟩⟩
  rw [List.length_map] at w
  refine lc_it w (fun i H2 => i ≤ xs.length ∧ Gr H1 H2 ∧ ∃ ws, H2 D = some (.lst ws) ∧ ws.length ≤ i ∧ DpAll X.K H2 ws (((xs.take i).filter pr).map f)) ⟨Nat.zero_le _, Gr.new hD, [], upd_same, Nat.zero_le _, .nil⟩ (fun i H2 _ p => (hid_le O H1).trans p.2.1) ?_ ?_
  · rintro i v H2 H3 hlt ⟨_, g2, ws, h1, h2, h3⟩ ⟨g3, d, hd, hp⟩
    obtain ⟨x, hx, rfl⟩ : ∃ x, xs[i]? = some x ∧ en x = d := by
      rw [List.getElem?_map] at hd
      cases e : xs[i]? with
      | none => rw [e] at hd; cases hd
      | some x => rw [e] at hd; exact ⟨x, rfl, Option.some.inj hd⟩
    have hmem := List.mem_of_getElem? hx
    have F3 := ((fit.gr (g1.trans (g2.trans g3))).wipe vs)
    refine tgR_go (G := ⟨X.prog, X.w, X.K, X.mg, X.base, CT, CB⟩) F3 (hp.rep ((hid_le O H1).trans (g2.trans g3)) F3) (hm x hmem) fun σ2 F4 hw => ⟨?_, ?_⟩
    · rw [hw _ hv]
      exact wipe_wipe fun u hu => hu
    · refine ⟨x, hmem, O, F4, fun H4 g4 => ?_⟩
      have et : xs.take (i + 1) = xs.take i ++ [x] := List.take_add_one.trans (by rw [hx]; rfl)
      cases hb : pr x with
      | true =>
        refine iteT ⟨x, hmem, hb, O, F4.gr g4, fun y H5 g5 r5 => ⟨ws, g5 _ _ (g4 _ _ (g3 _ _ h1)), ?_, hlt, ?_, ws ++ [y], upd_same, by simp; omega, ?_⟩⟩
        · have := size100 hz
          omega
        · intro b ob hb'
          have nb : b ≠ D := fun z => by rw [z, hD] at hb'; cases hb'
          rw [upd_ne nb]
          exact g5 _ _ (g4 _ _ (g3 _ _ (g2 b ob hb')))
        · have tk : Tk H5 (upd H5 D (.lst (ws ++ [y]))) := fun b zs hb' => by
            have e5 : H5 D = some (.lst ws) := g5 _ _ (g4 _ _ (g3 _ _ h1))
            have nb : b ≠ D := fun z => by
              subst z
              rcases hb' with hb' | ⟨_, hb'⟩ <;> (rw [e5] at hb'; cases hb')
            rcases hb' with hb' | ⟨ob, hb'⟩
            · exact .inl ((upd_ne nb).trans hb')
            · exact .inr ⟨ob, (upd_ne nb).trans hb'⟩
          rw [et, List.filter_append, List.map_append]
          have e1 : ([x].filter pr).map f = [f x] := by simp [hb]
          rw [e1]
          refine dps_tk tk _ _ ?_ (dps_append (dps_gr (g3.trans (g4.trans g5)) _ _ h3) (dps_one r5))
          refine ims_of fun z hz' => ?_
          rcases List.mem_append.mp hz' with hz' | hz'
          · obtain ⟨u, hu, rfl⟩ := List.mem_map.mp hz'
            obtain ⟨h5, h6⟩ := List.mem_filter.mp hu
            exact hf u (List.mem_of_mem_take h5) h6
          · rcases List.mem_cons.mp hz' with rfl | hz'
            · exact hf x hmem hb
            · cases hz'
      | false =>
        refine iteF ⟨hlt, g2.trans (g3.trans g4), ws, g4 _ _ (g3 _ _ h1), by omega, ?_⟩
        rw [et, List.filter_append, List.map_append]
        have e1 : ([x].filter pr).map f = [] := by simp [hb]
        rw [e1, List.append_nil]
        exact dps_gr (g3.trans g4) _ _ h3
  · rintro H2 ⟨_, g2, ws, h1, _, h3⟩
    rw [List.take_length] at h3
    exact q D ws H2 (g1.back hD) (g1.trans g2) h1 h3
theorem ims_fm {xs : List α} {pr : α → Bool} {f : α → PyData} (hf : ∀ x, x ∈ xs → pr x = true → im (f x) = true) : ims ((xs.filter pr).map f) = true := ims_of fun y hy => by
  obtain ⟨x, hx, rfl⟩ := List.mem_map.mp hy
  obtain ⟨h1, h2⟩ := List.mem_filter.mp hx
  exact hf x h1 h2
theorem dn_lc [o : On G X lv] {t : Tg} (xs : List α) (en : α → XD) (pr : α → Bool) (f : α → PyData) (hi : DI G X tg iter r (xs.map en)) (ok : BlkOk X.N X.env.scope scope own) (hv : ∀ i, i ∈ t.slots → i ∈ own.map (·.2))
    (hg : ∀ s H C cl fp, PG (Blk X scope s H C cl fp) tg (tgR X.K t))
    (ht : ∀ s H C cl fp x, x ∈ xs → PTs (Blk X scope s H C cl fp) ifs (tT G (bindE (r.wipe (own.map (·.2))) t (en x)) (pr x)))
    (he : ∀ s H C cl fp x, x ∈ xs → pr x = true → DW G (Blk X scope s H C cl fp) elt (bindE (r.wipe (own.map (·.2))) t (en x)) (.dat (f x)))
    (hm : ∀ x, x ∈ xs → tgOk t (en x)) (hf : ∀ x, x ∈ xs → pr x = true → im (f x) = true) (hz : xs.length ≤ 100000) (hs : ∀ x, foldedSetIterable iter X.env x = pure x := by intro _; rfl) :
    DN G X (.ListComp elt [⟨tg, iter, ifs, 0⟩] scope pos) r ((xs.filter pr).map f) := by
  obtain ⟨tt, te, h1, h2, h3⟩ := lc_core xs en pr f hv ht he hm hf hz
  exact ⟨ims_fm hf, lift (pe_lc o.calm o.nd hi ok hg h1 h2 hs) h3⟩
end
end RC

/-! RcI: statements and defs, by data. -/
namespace RC
open PySem L2
open PySem.W (Datum DatumOrd Tup T3 Holds HoldAll minOf maxOf EachIs)

/-- over the heap B at the entry -/
def FitB (G : Gx) (B : Hp) (r : DEnv) (σ : L2.St) (H : Hp) : Prop := Gr B H ∧ ∃ O, Fit G O H σ r ∧ ∀ a, a ∈ O → B a = none
inductive Out where
  | nx (r : DEnv)
  | rt (d : XD)
  /-- the end of a def that hands nothing back, told by the heap at its entry and the last one -/
  | fin (φ : Hp → Hp → Prop)
def EndOk (G : Gx) (B : Hp) (D : Ends) : Out → Prop
  | .nx r => ∀ σ H, FitB G B r σ H → D.nx σ H
  | .rt d => ∀ v H, Gr B H → Rep G H v d → D.rt v H
  | .fin φ => ∀ σ H, φ B H → D.nx σ H
def tS (G : Gx) (B : Hp) (r : DEnv) (o : Out) : TS := fun D σ H => FitB G B r σ H ∧ EndOk G B D o
abbrev DS (G : Gx) (X : Cx) (st : Stmt) (r : DEnv) (o : Out) : Prop := ∀ B, PS X st (tS G B r o)
abbrev DB (G : Gx) (X : Cx) (sts : List Stmt) (r : DEnv) (o : Out) : Prop := ∀ B, PSs X sts (tS G B r o)

/-! ### what may be stored -/
def DEnv.putS (r : DEnv) (i : Nat) (s : Slot) : DEnv := { sl := r.sl.set i (some s), pu := r.pu && !isOwn s }
theorem putS_x (r : DEnv) (i : Nat) (d : XD) : r.putS i (.x d) = r.put i (.x d) := by
  unfold DEnv.putS DEnv.put
  simp [isOwn]
def NewOk (G : Gx) (O : List Addr) (H H' : Hp) (v : V) : Slot → Prop
  | .x d => Rep G (hid O H') v d
  | .own ds => ims ds = true ∧ ∃ p xs, v = .ref p ∧ H p = none ∧ H' p = some (.lst xs) ∧ DpAll G.K H' xs ds
  | .ownD kvs => kvs = [] ∧ ∃ p, v = .ref p ∧ H p = none ∧ H' p = some (DO G.P G.w p [])
  | .ownB bs => ∃ p vs, v = .ref p ∧ H p = none ∧ H' p = some (.lst vs) ∧ Paired (fun v b => RepB G (hid (p :: O) H') v b) vs bs
def tP (G : Gx) (r : DEnv) (s : Slot) : TE := fun σ H Q => ∃ O, Fit G O H σ r ∧ ∀ v H', Gr H H' → NewOk G O H H' v s → Q v H'
abbrev PV (G : Gx) (X : Cx) (e : Expr) (r : DEnv) (s : Slot) : Prop := PE X e (tP G r s)
section
variable {G : Gx} {O : List Addr} {H H' H2 : Hp} {σ : L2.St} {r : DEnv} {v : V}
theorem gr_hid2 {O : List Addr} {H1 H2 : Hp} (g : Gr H1 H2) : Gr (hid O H1) (hid O H2) := hid_gr g
/-- a new one of one's own -/
theorem Fit.own (f : Fit G O H σ r) (g : Gr H H') {p : Addr} {o : HO} (hp : H p = none) (hp' : H' p = some o) (hn : NoT o) (i : Nat) {s : Slot} (hs : isOwn s = true) (ok : SlotOk G (p :: O) H' (.ref p) s) :
    Fit G (p :: O) H' (σ.set i (some (.ref p))) (r.putS i s) := by
  have hO : p ∉ O := fun z => by
    obtain ⟨o, e, _⟩ := f.tr p z
    rw [hp] at e
    cases e
  have gh : Gr (hid O H) (hid (p :: O) H') := fun b ob e => by
    have hb : b ∉ O := fun z => by rw [hid_in z] at e; cases e
    have e' : H b = some ob := by rw [hid_out hb] at e; exact e
    have nb : b ≠ p := fun z => by rw [z, hp] at e'; cases e'
    rw [hid_out (by simp [hb, nb])]
    exact g b ob e'
  have keep : ∀ {u : V} {t : Slot}, SlotOk G O H u t → SlotOk G (p :: O) H' u t := fun {u t} h => by
    cases t with
    | x d => exact rep_gr gh h
    | own ds =>
      obtain ⟨h0, a, xs, e1, h1, h2, h3⟩ := h
      exact ⟨h0, a, xs, e1, List.mem_cons_of_mem _ h1, g _ _ h2, dps_gr gh _ _ h3⟩
    | ownD kvs =>
      obtain ⟨a, xs, e1, h1, h2, h3⟩ := h
      exact ⟨a, xs, e1, List.mem_cons_of_mem _ h1, g _ _ h2, Paired.mapP h3 fun _ _ q => entOk_gr gh q⟩
    | ownB bs =>
      obtain ⟨a, xs, e1, h1, h2, h3⟩ := h
      exact ⟨a, xs, e1, List.mem_cons_of_mem _ h1, g _ _ h2, Paired.mapP h3 fun _ _ q => repB_gr gh q⟩
  -- an older one of one's own stands elsewhere
  have apart : ∀ {j : Nat} {t : Slot}, r.sl[j]? = some (some t) → isOwn t = true → σ[j]? ≠ some (some (.ref p)) := fun {j t} h ht e => by
    obtain ⟨u, e1, q⟩ := f.at_ j t h
    rw [e] at e1
    cases e1
    cases t with
    | x d => cases ht
    | own ds =>
      obtain ⟨_, a, xs, e1, h1, _⟩ := q
      cases e1
      exact hO h1
    | ownD kvs =>
      obtain ⟨a, xs, e1, h1, _⟩ := q
      cases e1
      exact hO h1
    | ownB bs =>
      obtain ⟨a, xs, e1, h1, _⟩ := q
      cases e1
      exact hO h1
  refine ⟨?_, fun j t ht => ?_, fun j k s1 t h1 h2 o1 o2 ne => ?_, fun a ha => ?_, fun e => ?_⟩
  · show (σ.set i _).length = (r.sl.set i _).length
    rw [List.length_set, List.length_set]
    exact f.len
  · rcases set_get (show (r.sl.set i (some s))[j]? = some (some t) from ht) with ⟨rfl, e⟩ | ⟨n1, e⟩
    · cases e
      have hi : i < r.sl.length := by
        have := (List.getElem?_eq_some_iff.mp ht).1
        simpa [DEnv.putS] using this
      exact ⟨.ref p, List.getElem?_set_self (by rw [f.len]; exact hi), ok⟩
    · obtain ⟨u, e1, q⟩ := f.at_ j t e
      exact ⟨u, (List.getElem?_set_ne n1).trans e1, keep q⟩
  · have hlen : ∀ {j : Nat} {s1 : Slot}, (r.sl.set i (some s))[j]? = some (some s1) → j = i → i < σ.length := fun {j s1} h e => by
      have := (List.getElem?_eq_some_iff.mp h).1
      rw [List.length_set] at this
      rw [f.len]
      omega
    rcases set_get (show (r.sl.set i (some s))[j]? = some (some s1) from h1) with ⟨rfl, e⟩ | ⟨n1, e⟩
    · rcases set_get (show (r.sl.set i (some s))[k]? = some (some t) from h2) with ⟨rfl, e2⟩ | ⟨n2, e2⟩
      · exact absurd rfl ne
      · rw [List.getElem?_set_self (hlen h1 rfl), List.getElem?_set_ne n2]
        exact fun z => apart e2 o2 z.symm
    · rcases set_get (show (r.sl.set i (some s))[k]? = some (some t) from h2) with ⟨rfl, e2⟩ | ⟨n2, e2⟩
      · rw [List.getElem?_set_ne n1, List.getElem?_set_self (hlen h2 rfl)]
        exact fun z => apart e o1 z
      · rw [List.getElem?_set_ne n1, List.getElem?_set_ne n2]
        exact f.dis j k s1 t e e2 o1 o2 ne
  · rcases List.mem_cons.mp ha with rfl | ha
    · exact ⟨o, hp', hn⟩
    · obtain ⟨ob, e, n⟩ := f.tr a ha
      exact ⟨ob, g _ _ e, n⟩
  · have : (r.pu && !isOwn s) = true := e
    rw [hs] at this
    simp at this
/-- what has come is stored -/
theorem Fit.store (f : Fit G O H σ r) (g : Gr H H') {s : Slot} (n : NewOk G O H H' v s) (i : Nat) : ∃ O', Fit G O' H' (σ.set i (some v)) (r.putS i s) ∧ (∀ a, a ∈ O' → a ∈ O ∨ H a = none) ∧ ∀ a, a ∈ O → a ∈ O' := by
  have mem : ∀ {p : Addr}, H p = none → ∀ a, a ∈ p :: O → a ∈ O ∨ H a = none := fun {p} hp a ha => by
    rcases List.mem_cons.mp ha with rfl | ha
    · exact .inr hp
    · exact .inl ha
  cases s with
  | x d =>
    rw [putS_x]
    exact ⟨O, (f.gr g).put i n, fun a h => .inl h, fun a h => h⟩
  | own ds =>
    obtain ⟨him, p, xs, rfl, hp, hp', hd⟩ := n
    have tk : Tk H' (hid (p :: O) H') := hid_tk fun a ha => by
      rcases List.mem_cons.mp ha with rfl | ha
      · exact ⟨_, hp', trivial⟩
      · exact (f.gr g).tr a ha
    exact ⟨p :: O, f.own g hp hp' trivial i rfl ⟨him, p, xs, rfl, List.mem_cons_self, hp', dps_tk tk ds xs him hd⟩, mem hp, fun a h => List.mem_cons_of_mem _ h⟩
  | ownD kvs =>
    obtain ⟨rfl, p, rfl, hp, hp'⟩ := n
    exact ⟨p :: O, f.own g hp hp' trivial i rfl ⟨p, [], rfl, List.mem_cons_self, hp', .nil⟩, mem hp, fun a h => List.mem_cons_of_mem _ h⟩
  | ownB bs =>
    obtain ⟨p, vs, rfl, hp, hp', hd⟩ := n
    exact ⟨p :: O, f.own g hp hp' trivial i rfl ⟨p, vs, rfl, List.mem_cons_self, hp', hd⟩, mem hp, fun a h => List.mem_cons_of_mem _ h⟩
theorem NewOk.gr {s : Slot} (n : NewOk G O H H' v s) (g : Gr H' H2) : NewOk G O H H2 v s := by
  cases s with
  | x d => exact rep_gr (hid_gr g) n
  | own ds =>
    obtain ⟨him, p, xs, rfl, hp, hp', hd⟩ := n
    exact ⟨him, p, xs, rfl, hp, g _ _ hp', dps_gr g _ _ hd⟩
  | ownD kvs =>
    obtain ⟨rfl, p, rfl, hp, hp'⟩ := n
    exact ⟨rfl, p, rfl, hp, g _ _ hp'⟩
  | ownB bs =>
    obtain ⟨p, vs, rfl, hp, hp', hd⟩ := n
    exact ⟨p, vs, rfl, hp, g _ _ hp', Paired.mapP hd fun _ _ q => repB_gr (hid_gr g) q⟩
/-- hiding more that is not used by a new list -/
theorem NewOk.own_any {O' : List Addr} {ds : List PyData} (n : NewOk G O H H' v (.own ds)) : NewOk G O' H H' v (.own ds) := n
theorem FitB.store {B : Hp} {O : List Addr} (gB : Gr B H) (hO : ∀ a, a ∈ O → B a = none) (f : Fit G O H σ r) (g : Gr H H') {s : Slot} (n : NewOk G O H H' v s) (i : Nat) : FitB G B (r.putS i s) (σ.set i (some v)) H' := by
  obtain ⟨O', f', h1, _⟩ := f.store g n i
  exact ⟨gB.trans g, O', f', fun a ha => (h1 a ha).elim (hO a) fun z => gB.back z⟩
/-- two stored together: the first is no list of one's own, or the second is one -/
theorem FitB.store2 {B : Hp} {O : List Addr} {u : V} {H3 : Hp} (gB : Gr B H) (hO : ∀ a, a ∈ O → B a = none) (f : Fit G O H σ r) (g : Gr H H') {s t : Slot} (n : NewOk G O H H' v s) (g2 : Gr H' H2) (n2 : NewOk G O H' H2 u t) (g3 : Gr H2 H3)
    (c : isOwn s = false ∨ ∃ ds, t = .own ds) (i j : Nat) : FitB G B ((r.putS i s).putS j t) ((σ.set i (some v)).set j (some u)) H3 := by
  have fin : ∀ {O' : List Addr}, Fit G O' H' (σ.set i (some v)) (r.putS i s) → (∀ a, a ∈ O' → a ∈ O ∨ H a = none) → NewOk G O' H' H3 u t → FitB G B ((r.putS i s).putS j t) ((σ.set i (some v)).set j (some u)) H3 := fun {O'} f' h1 n3 =>
    FitB.store (gB.trans g) (fun a ha => (h1 a ha).elim (hO a) fun z => gB.back z) f' (g2.trans g3) n3 j
  rcases c with c | ⟨ds, rfl⟩
  · cases s with
    | x d =>
      have f' := (f.gr g).put i n
      rw [← putS_x] at f'
      exact fin f' (fun a h => .inl h) (n2.gr g3)
    | _ => cases c
  · obtain ⟨O', f', h1, h2⟩ := f.store g n i
    exact fin f' h1 (n2.gr g3).own_any

/-! ### what gives what may be stored -/
variable {X : Cx} {lv : Nat} {e a b c : Expr} {es : List Expr} {pos p : Pos} {st : Stmt} {sts rest : List Stmt} {o o1 : Out} {d : XD}
theorem pv_x (h : DE G X e r d) : PV G X e r (.x d) := lift h fun σ H Q ⟨O, f, q⟩ => ⟨O, f, fun v H1 g1 r1 => q v H1 g1 r1⟩
theorem pv_im (h : DW G X e r d) (i : imX d = true) : PV G X e r (.x d) := pv_x (de_im h i)
theorem pv_pu (h : DW G X e r d) (i : r.pu = true := by rfl) : PV G X e r (.x d) := pv_x (de_pu h i)
theorem pv_n {ds : List PyData} (h : DN G X e r ds) : PV G X e r (.x (.dat (.list ds))) := pv_x (dn_e h)
theorem pv_own {ds : List PyData} (h : DN G X e r ds) : PV G X e r (.own ds) := lift h.2 fun σ H Q ⟨O, f, q⟩ => ⟨O, f, fun p xs H1 n g1 e1 r1 => q _ H1 g1 ⟨h.1, p, xs, rfl, n, e1, r1⟩⟩
theorem do_empty (P : Program) (w : World) (h : Heap) (hb : sysModules < h.objs.size) : ObjOk P w H (h.push { cls := .type "dict", data := .dict #[] }) h.objs.size (DO P w h.objs.size []) := by
  have hg : (h.push { cls := .type "dict", data := .dict #[] }).get? h.objs.size = some { cls := .type "dict", data := .dict #[] } := Heap.get?_push_size _ rfl
  refine ⟨⟨beq_eq_false_iff_ne.mpr (Nat.ne_of_gt hb), _, #[], _, hg, ⟨rfl, rfl, rfl⟩, rfl, rfl, List.nodup_nil⟩, ⟨_, hg⟩, fun h1 h2 ⟨k1, o, es, ep, k2, k3⟩ k => ⟨k1, o, es, ep, k _ k2, k3⟩⟩
theorem pv_dict [on : On G X lv] : PV G X (.Dict [] [] pos) r (.ownD []) := by
  obtain ⟨⟨CT, CB, rfl⟩, _⟩ := on
  exact ⟨fun pins s σ H Q I ⟨O, f, q⟩ => wpAny_Dict_empty ⟨.ref s.heap.objs.size, _, I.laid (a := s.heap.objs.size) (o := DO X.prog X.w s.heap.objs.size []) (t' := s.toks) (fun _ _ q => Heap.get?_push_of_some _ q) (Nat.le_refl _) (do_empty X.prog X.w s.heap I.big), rfl,
    q _ _ (Gr.new (I.hok.fresh (Nat.le_refl _))) ⟨rfl, _, rfl, I.hok.fresh (Nat.le_refl _), upd_same⟩⟩⟩
theorem pv_if {k : Bool} {s : Slot} (h : DT G X c r k) (h1 : k = true → PV G X a r s) (h2 : k = false → PV G X b r s) : PV G X (.IfExp c a b pos) r s := by
  have back : ∀ {O : List Addr} {H1 H2 : Hp} {v : V} {H : Hp}, Gr H H1 → NewOk G O H1 H2 v s → NewOk G O H H2 v s := fun {O H1 H2 v H} g n => by
    cases s with
    | x d => exact n
    | own ds =>
      obtain ⟨h0, p, xs, rfl, hp, h3⟩ := n
      exact ⟨h0, p, xs, rfl, g.back hp, h3⟩
    | ownD kvs =>
      obtain ⟨h0, p, rfl, hp, h3⟩ := n
      exact ⟨h0, p, rfl, g.back hp, h3⟩
    | ownB bs =>
      obtain ⟨p, vs, rfl, hp, h3⟩ := n
      exact ⟨p, vs, rfl, g.back hp, h3⟩
  cases k with
  | true =>
    have nv : PE X b (fun _ _ _ => False) := ⟨fun _ _ _ _ _ _ z => z.elim⟩
    exact lift (pe_ifExp h (h1 rfl) nv) fun σ H Q ⟨O, f, q⟩ => ⟨O, f, fun H1 g1 => iteT ⟨O, f.gr g1, fun v H2 g2 r2 => q v H2 (g1.trans g2) (back g1 r2)⟩⟩
  | false =>
    have nv : PE X a (fun _ _ _ => False) := ⟨fun _ _ _ _ _ _ z => z.elim⟩
    exact lift (pe_ifExp h nv (h2 rfl)) fun σ H Q ⟨O, f, q⟩ => ⟨O, f, fun H1 g1 => iteF ⟨O, f.gr g1, fun v H2 g2 r2 => q v H2 (g1.trans g2) (back g1 r2)⟩⟩

/-! ### statements -/
theorem liftS {t t' : TS} (h : PS X st t) (k : ∀ D σ H, t' D σ H → t D σ H) : PS X st t' := ⟨fun pins s σ H D I q => h.run pins s σ H D I (k _ _ _ q)⟩
theorem liftSs {t t' : TS} (h : PSs X sts t) (k : ∀ D σ H, t' D σ H → t D σ H) : PSs X sts t' := ⟨fun pins s σ H D I q => h.run pins s σ H D I (k _ _ _ q)⟩
theorem ds_set [on : On G X lv] (i : Nat) {x : Str} {s : Slot} (he : PV G X e r s) (hi : X.N[i]? = some x := by rfl) (hx : Loc X.env.scope x := by first | exact Or.inl rfl | exact Or.inr rfl) (hs : swapsWith e (some (.Name x p)) pos.line X.env = pure false := by rfl)
    (hf : X.fn x = true ∨ X.env.scope.names.lookup x = some .local := by first | exact .inl rfl | exact .inr rfl) : DS G X (.Assign [.Name x p] e pos) r (.nx (r.putS i s)) := fun B =>
  liftS (ps_set on.nd hi hx he hs hf) fun D σ H ⟨⟨gB, O, f, hO⟩, k⟩ => ⟨O, f, fun v H1 g1 n => k _ _ (FitB.store gB hO f g1 n i)⟩
theorem ds_ret (h : DW G X e r d) : DS G X (.Return (some e) pos) r (.rt d) := fun B =>
  liftS (ps_ret h) fun D σ H ⟨⟨gB, O, f, hO⟩, k⟩ => ⟨O, f, fun v H1 g1 n => k v H1 (gB.trans g1) n⟩
theorem ds_if {k : Bool} (h : DT G X c r k) (h1 : k = true → DB G X sts r o) (h2 : k = false → DB G X rest r o) : DS G X (.If c sts rest pos) r o := fun B => by
  cases k with
  | true => exact liftS (ps_if h (h1 rfl B) pss_never) fun D σ H ⟨⟨gB, O, f, hO⟩, k⟩ => ⟨O, f, fun H1 g1 => iteT ⟨⟨gB.trans g1, O, f.gr g1, hO⟩, k⟩⟩
  | false => exact liftS (ps_if h pss_never (h2 rfl B)) fun D σ H ⟨⟨gB, O, f, hO⟩, k⟩ => ⟨O, f, fun H1 g1 => iteF ⟨⟨gB.trans g1, O, f.gr g1, hO⟩, k⟩⟩
theorem db_nil : DB G X [] r (.nx r) := fun B => liftSs pss_nil fun D σ H ⟨f, k⟩ => k _ _ f
theorem db_cons {r1 : DEnv} (h1 : DS G X st r (.nx r1)) (h2 : DB G X rest r1 o) : DB G X (st :: rest) r o := fun B =>
  liftSs (pss_cons (h1 B) (h2 B)) fun D σ H ⟨f, k⟩ => ⟨f, fun σ1 H1 f1 => ⟨f1, k⟩⟩
theorem db_one (h : DS G X st r o) : DB G X [st] r o := fun B => pss_one (h B)
/-- what stands behind a return is not met -/
theorem db_stop (h : DS G X st r (.rt d)) : DB G X (st :: rest) r (.rt d) := fun B =>
  liftSs (pss_cons (h B) (pss_never (sts := rest))) fun D σ H ⟨f, k⟩ => ⟨f, k⟩
/-- a, b = e1, e2, plain locals -/
theorem ds_par [on : On G X lv] (i j : Nat) {x y : Str} {s t : Slot} {px py pt pt2 : Pos} {kt k2 : Nat} (ha : PV G X a r s) (hb : PV G X b r t) (c : isOwn s = false ∨ ∃ ds, t = .own ds := by first | exact .inl rfl | exact .inr ⟨_, rfl⟩) (hi : X.N[i]? = some x := by rfl) (hj : X.N[j]? = some y := by rfl) (hij : i ≠ j := by decide)
    (hx : X.env.scope.names.lookup x = some .local := by rfl) (hy : X.env.scope.names.lookup y = some .local := by rfl) (hw : swappedStores [.Tuple [.Name x px, .Name y py] kt pt] (.Tuple [a, b] k2 pt2) X.env = pure (some [x, y]) := by rfl)
    (hs : swapsWithSole [.Tuple [.Name x px, .Name y py] kt pt] (.Tuple [a, b] k2 pt2) pos.line X.env = pure false := by rfl) (hs1 : starEach [a, b] X.env = (false, eval a X.env) :: starEach [b] X.env := by rfl) (hs2 : starEach [b] X.env = [(false, eval b X.env)] := by rfl) :
    DS G X (.Assign [.Tuple [.Name x px, .Name y py] kt pt] (.Tuple [a, b] k2 pt2) pos) r (.nx ((r.putS i s).putS j t)) := fun B =>
  liftS (ps_par on.calm on.nd hi hj hij hx hy (pa_cons ha (pa_cons hb pa_nil hs2) hs1) hw hs) fun D σ H ⟨⟨gB, O, f, hO⟩, k⟩ =>
    ⟨O, f, fun v H1 g1 n => ⟨O, f.gr g1, fun u H2 g2 n2 => ⟨v, u, rfl, k _ _ (FitB.store2 gB hO f g1 n g2 n2 (Gr.refl _) c i j)⟩⟩⟩
/-- .. of names that comprehensions capture: by a tuple -/
theorem ds_parT [on : On G X lv] (i j : Nat) {x y : Str} {s t : Slot} {px py pt pt2 : Pos} {kt k2 : Nat} (ha : PV G X a r s) (hb : PV G X b r t) (c : isOwn s = false ∨ ∃ ds, t = .own ds := by first | exact .inl rfl | exact .inr ⟨_, rfl⟩) (hi : X.N[i]? = some x := by rfl) (hj : X.N[j]? = some y := by rfl)
    (hx : Loc X.env.scope x := by first | exact Or.inl rfl | exact Or.inr rfl) (hy : Loc X.env.scope y := by first | exact Or.inl rfl | exact Or.inr rfl) (hf : X.fn x = true ∨ X.env.scope.names.lookup x = some .local := by first | exact .inl rfl | exact .inr rfl) (hf2 : X.fn y = true ∨ X.env.scope.names.lookup y = some .local := by first | exact .inl rfl | exact .inr rfl)
    (hw : swappedStores [.Tuple [.Name x px, .Name y py] kt pt] (.Tuple [a, b] k2 pt2) X.env = pure none := by rfl) (hs : swapsWithSole [.Tuple [.Name x px, .Name y py] kt pt] (.Tuple [a, b] k2 pt2) pos.line X.env = pure false := by rfl)
    (hs1 : starEach [a, b] X.env = (false, eval a X.env) :: starEach [b] X.env := by rfl) (hs2 : starEach [b] X.env = [(false, eval b X.env)] := by rfl)
    (hn : (assignEach [.Name x px, .Name y py] X.env).length = 2 := by rfl) (hst : (assignEach [.Name x px, .Name y py] X.env).findIdx? (·.1) = none := by rfl)
    (h1 : (assignEach [.Tuple [.Name x px, .Name y py] kt pt] X.env).map (·.2) = [assign (.Tuple [.Name x px, .Name y py] kt pt) X.env] := by rfl)
    (hq1 : (assignEach (.Name x px :: [.Name y py]) X.env).map (·.2) = assign (.Name x px) X.env :: (assignEach [.Name y py] X.env).map (·.2) := by rfl) (hq2 : (assignEach (.Name y py :: []) X.env).map (·.2) = assign (.Name y py) X.env :: (assignEach [] X.env).map (·.2) := by rfl) :
    DS G X (.Assign [.Tuple [.Name x px, .Name y py] kt pt] (.Tuple [a, b] k2 pt2) pos) r (.nx ((r.putS i s).putS j t)) := fun B => by
  have hc := on.calm
  have nd := on.nd
  obtain ⟨⟨CT, CB, rfl⟩, _⟩ := on
  refine liftS (ps_asg (pe_tup (pa_cons ha (pa_cons hb pa_nil hs2) hs1)) (pg_tup hc (pgs_cons (pg_name nd hi hx hf) (pgs_cons (pg_name nd hj hy hf2) pgs_nil hq2) hq1) hn hst) hs hw h1) fun D σ H ⟨⟨gB, O, f, hO⟩, k⟩ =>
    ⟨O, f, fun v H1 g1 n => ⟨O, f.gr g1, fun u H2 g2 n2 => ⟨by rw [sizeLine_eq]; show 2 ≤ 16777216; decide, fun q hq => ⟨q, [v, u], rfl, .of upd_same, rfl, _, _, rfl, _, _, rfl, rfl, k _ _ (FitB.store2 gB hO f g1 n g2 n2 (Gr.new hq) c i j)⟩⟩⟩⟩
/-- a, b, .. = e -/
theorem ds_unpack [on : On G X lv] {is : List Nat} {ds : List PyData} {kt : Nat} {pt : Pos} (he : DE G X e r (.dat (.tuple ds))) (hg : PG X (.Tuple es kt pt) (tgR X.K (.tup is))) (hl : ds.length = is.length := by rfl) (hs : swapsWithSole [.Tuple es kt pt] e pos.line X.env = pure false := by rfl) (hw : swappedStores [.Tuple es kt pt] e X.env = pure none := by rfl)
    (h1 : (assignEach [.Tuple es kt pt] X.env).map (·.2) = [assign (.Tuple es kt pt) X.env] := by rfl) : DS G X (.Assign [.Tuple es kt pt] e pos) r (.nx (putAll r is ds)) := fun B => by
  obtain ⟨⟨CT, CB, rfl⟩, _⟩ := on
  exact liftS (ps_asg he hg hs hw h1) fun D σ H ⟨⟨gB, O, f, hO⟩, k⟩ => ⟨O, f, fun v H1 g1 n => tgR_go (G := ⟨X.prog, X.w, X.K, X.mg, X.base, CT, CB⟩) (d := .dat (.tuple ds)) (t := .tup is) (f.gr g1) n hl fun σ' f' _ => k _ _ ⟨gB.trans g1, O, f', hO⟩⟩
end
end RC

/-! RcJ: loops, what changes lists and dicts of one's own, defs. -/
namespace RC
open PySem L2
open PySem.W (Datum DatumOrd Tup T3 Holds HoldAll minOf maxOf EachIs)

section
variable {G : Gx} {X : Cx} {lv : Nat} {r r' : DEnv} {e a b c tg iter elt : Expr} {es ifs : List Expr} {pos p p2 p3 : Pos} {st : Stmt} {sts rest body : List Stmt} {o o1 : Out} {d : XD} {α : Type}

/-! ### for -/
/-- the body, item by item -/
inductive FRun (G : Gx) (X : Cx) (body : List Stmt) (t : Tg) : List XD → DEnv → DEnv → Prop where
  | nil {r : DEnv} : FRun G X body t [] r r
  | cons {d : XD} {ds : List XD} {r r1 r' : DEnv} (h : tgOk t d) (hb : DB G X body (bindE r t d) (.nx r1)) (ht : FRun G X body t ds r1 r') : FRun G X body t (d :: ds) r r'
theorem hid_base {B H1 : Hp} {O : List Addr} (g : Gr B H1) (h : ∀ a, a ∈ O → B a = none) : Gr B (hid O H1) := fun b o e => by
  have hb : b ∉ O := fun z => by rw [h b z] at e; cases e
  rw [hid_out hb]
  exact g b o e
theorem FitB.base {B B' H : Hp} {σ : L2.St} (g : Gr B B') (f : FitB G B' r σ H) : FitB G B r σ H := by
  obtain ⟨g1, O, f1, h⟩ := f
  exact ⟨g.trans g1, O, f1, fun a ha => g.back (h a ha)⟩
theorem ds_for [on : On G X lv] {t : Tg} {ds : List XD} (hi : DI G X tg iter r ds) (hg : PG X tg (tgR X.K t)) (h : FRun G X body t ds r r') (hnox : PassesOwn (model X.prog X.w) X.A X.env X.xe) (hs : ∀ x, foldedSetIterable iter X.env x = pure x := by intro _; rfl) :
    DS G X (.For tg iter body [] pos) r (.nx r') := fun B => by
  have hc := on.calm
  obtain ⟨⟨CT, CB, rfl⟩, _⟩ := on
  -- one reading for all turns
  let tb : TS := fun D σ H => ∃ (B : Hp) (d : XD) (r r1 : DEnv), tgOk t d ∧ DB ⟨X.prog, X.w, X.K, X.mg, X.base, CT, CB⟩ X body (bindE r t d) (.nx r1) ∧ tS ⟨X.prog, X.w, X.K, X.mg, X.base, CT, CB⟩ B (bindE r t d) (.nx r1) D σ H
  have hb : PSs X body tb := ⟨fun pins s σ H D I ⟨B, d, r, r1, _, h1, q⟩ => (h1 B).run pins s σ H D I q⟩
  refine liftS (ps_for hnox hc hi hg hb hs) fun D σ H ⟨⟨gB, O, f, hO⟩, k⟩ => ⟨O, f, fun J H1 g1 w => ?_⟩
  have gB1 : Gr B (hid O H1) := hid_base (gB.trans g1) hO
  have hB' : ∀ a, a ∈ O → hid O H1 a = none := fun a ha => hid_in ha
  refine for_it w (fun i σ2 H2 => i ≤ ds.length ∧ ∃ ri, FRun ⟨X.prog, X.w, X.K, X.mg, X.base, CT, CB⟩ X body t (ds.drop i) ri r' ∧ FitB ⟨X.prog, X.w, X.K, X.mg, X.base, CT, CB⟩ (hid O H1) ri σ2 H2)
    ⟨Nat.zero_le _, r, h, hid_le O H1, O, f.gr g1, hB'⟩ (fun i σ2 H2 _ q => by obtain ⟨_, ri, _, g, _⟩ := q; exact g) ?_ ?_
  · rintro i v σ2 H2 H3 hlt ⟨_, ri, hr, g2, O2, f2, hO2⟩ ⟨g3, d, hd, hp⟩
    have ed : ds.drop i = d :: ds.drop (i + 1) := by
      rw [List.drop_eq_getElem_cons hlt]
      rw [List.getElem?_eq_getElem hlt] at hd
      rw [Option.some.inj hd]
    rw [ed] at hr
    cases hr with
    | cons ht hbd hrest =>
      have f3 := f2.gr g3
      have hrep : Rep ⟨X.prog, X.w, X.K, X.mg, X.base, CT, CB⟩ (hid O2 H3) v d := by
        rcases hp with hp | ⟨i1, hp⟩
        · refine rep_gr ?_ hp
          intro b ob hb2
          have nb : b ∉ O2 := fun z => by rw [hO2 b z] at hb2; cases hb2
          rw [hid_out nb]
          exact g3 _ _ (g2 b ob hb2)
        · exact rep_tk f3.tk i1 hp
      exact tgR_go (G := ⟨X.prog, X.w, X.K, X.mg, X.base, CT, CB⟩) f3 hrep ht fun σ' f' _ => ⟨hid O H1, d, ri, _, ht, hbd, ⟨g2.trans g3, O2, f', hO2⟩, fun σ4 H4 f4 => ⟨hlt, _, hrest, f4⟩⟩
  · rintro σ2 H2 ⟨_, ri, hr, f2⟩
    rw [List.drop_length] at hr
    cases hr
    exact k _ _ (f2.base gB1)

/-! ### while -/
inductive WRun (G : Gx) (X : Cx) (c : Expr) (body : List Stmt) : DEnv → DEnv → Prop where
  | done {r : DEnv} (h : DT G X c r false) : WRun G X c body r r
  | turn {r r1 r' : DEnv} (h : DT G X c r true) (hb : DB G X body r (.nx r1)) (ht : WRun G X c body r1 r') : WRun G X c body r r'
inductive WRunN (G : Gx) (X : Cx) (c : Expr) (body : List Stmt) : Nat → DEnv → DEnv → Prop where
  | done {r : DEnv} (h : DT G X c r false) : WRunN G X c body 0 r r
  | turn {n : Nat} {r r1 r' : DEnv} (h : DT G X c r true) (hb : DB G X body r (.nx r1)) (ht : WRunN G X c body n r1 r') : WRunN G X c body (n + 1) r r'
theorem WRun.n (h : WRun G X c body r r') : ∃ n, WRunN G X c body n r r' := by
  induction h with
  | done h => exact ⟨0, .done h⟩
  | turn h hb _ ih =>
    obtain ⟨n, ih⟩ := ih
    exact ⟨n + 1, .turn h hb ih⟩
theorem ds_while [on : On G X lv] (h : WRun G X c body r r') (hnox : PassesOwn (model X.prog X.w) X.A X.env X.xe) : DS G X (.While c body [] pos) r (.nx r') := fun B => by
  obtain ⟨n0, h⟩ := h.n
  let tt : TT := fun σ H Q => ∃ (r : DEnv) (k : Bool), DT G X c r k ∧ tT G r k σ H Q
  have hc : PT X c tt := ⟨fun pins s σ H Q I ⟨r, k, h1, q⟩ => h1.run pins s σ H Q I q⟩
  let tb : TS := fun D σ H => ∃ (r r1 : DEnv), DB G X body r (.nx r1) ∧ tS G B r (.nx r1) D σ H
  have hb : PSs X body tb := ⟨fun pins s σ H D I ⟨r, r1, h1, q⟩ => (h1 B).run pins s σ H D I q⟩
  refine liftS (ps_while hnox hc hb) fun D σ H ⟨f, k⟩ => ⟨fun m σ2 H2 => ∃ ri, WRunN G X c body m ri r' ∧ FitB G B ri σ2 H2, ⟨n0, r, h, f⟩, ?_⟩
  rintro m σ2 H2 ⟨ri, hr, g2, O, f2, hO⟩
  cases hr with
  | done h1 =>
    refine ⟨_, false, h1, O, f2, fun H3 g3 => iteF ?_⟩
    exact k _ _ ⟨g2.trans g3, O, f2.gr g3, hO⟩
  | @turn n1 _ _ _ h1 hbd hrest =>
    refine ⟨_, true, h1, O, f2, fun H3 g3 => iteT ⟨fun σ4 H4 => ∃ m', m' < n1 + 1 ∧ ∃ ri, WRunN G X c body m' ri r' ∧ FitB G B ri σ4 H4, fun σ4 H4 q => q, _, _, hbd, ⟨g2.trans g3, O, f2.gr g3, hO⟩, ?_⟩⟩
    exact fun σ4 H4 f4 => ⟨_, Nat.lt_succ_self _, _, hrest, f4⟩

/-! ### changes -/
theorem Fit.mut {O : List Addr} {H : Hp} {σ : L2.St} {q : Addr} {ob : HO} {i : Nat} {s : Slot} (f : Fit G O H σ r) (ho : q ∈ O) (hn : NoT ob) (hq : σ[i]? = some (some (.ref q))) {s0 : Slot} (hs0 : r.sl[i]? = some (some s0)) (h0 : isOwn s0 = true) (hs : isOwn s = true) (ok : SlotOk G O (upd H q ob) (.ref q) s) :
    Fit G O (upd H q ob) σ (r.putS i s) := by
  have eh : hid O (upd H q ob) = hid O H := hid_upd ho
  have hi : i < r.sl.length := (List.getElem?_eq_some_iff.mp hs0).1
  have keep : ∀ {j : Nat} {u : V} {t : Slot}, j ≠ i → r.sl[j]? = some (some t) → σ[j]? = some (some u) → SlotOk G O H u t → SlotOk G O (upd H q ob) u t := fun {j u t} nj hj hu h => by
    cases t with
    | x d =>
      show Rep G (hid O (upd H q ob)) u d
      rw [eh]
      exact h
    | own ds =>
      obtain ⟨h0', a, xs, rfl, h1, h2, h3⟩ := h
      have na : a ≠ q := fun z => f.dis j i _ _ hj hs0 rfl h0 nj (by rw [hu, hq, z])
      exact ⟨h0', a, xs, rfl, h1, by rw [upd_ne na]; exact h2, by rw [eh]; exact h3⟩
    | ownD kvs =>
      obtain ⟨a, xs, rfl, h1, h2, h3⟩ := h
      have na : a ≠ q := fun z => f.dis j i _ _ hj hs0 rfl h0 nj (by rw [hu, hq, z])
      exact ⟨a, xs, rfl, h1, by rw [upd_ne na]; exact h2, by rw [eh]; exact h3⟩
    | ownB bs =>
      obtain ⟨a, xs, rfl, h1, h2, h3⟩ := h
      have na : a ≠ q := fun z => f.dis j i _ _ hj hs0 rfl h0 nj (by rw [hu, hq, z])
      exact ⟨a, xs, rfl, h1, by rw [upd_ne na]; exact h2, by rw [eh]; exact h3⟩
  refine ⟨?_, fun j t ht => ?_, fun j k s1 t h1 h2 o1 o2 ne => ?_, fun a ha => ?_, fun e => ?_⟩
  · show σ.length = (r.sl.set i _).length
    rw [List.length_set]
    exact f.len
  · rcases set_get (show (r.sl.set i (some s))[j]? = some (some t) from ht) with ⟨rfl, e⟩ | ⟨n1, e⟩
    · cases e
      exact ⟨_, hq, ok⟩
    · obtain ⟨u, e1, z⟩ := f.at_ j t e
      exact ⟨u, e1, keep (Ne.symm n1) e e1 z⟩
  · have old : ∀ {j : Nat} {t : Slot}, (r.sl.set i (some s))[j]? = some (some t) → isOwn t = true → ∃ t', r.sl[j]? = some (some t') ∧ isOwn t' = true := fun {j t} h ot => by
      rcases set_get h with ⟨rfl, e⟩ | ⟨n1, e⟩
      · exact ⟨s0, hs0, h0⟩
      · exact ⟨t, e, ot⟩
    obtain ⟨s1', e1, o1'⟩ := old h1 o1
    obtain ⟨t', e2, o2'⟩ := old h2 o2
    exact f.dis j k s1' t' e1 e2 o1' o2' ne
  · by_cases na : a = q
    · subst na
      exact ⟨ob, upd_same, hn⟩
    · obtain ⟨u, e, n⟩ := f.tr a ha
      exact ⟨u, by rw [upd_ne na]; exact e, n⟩
  · have : (r.pu && !isOwn s) = true := e
    rw [hs] at this
    simp at this
theorem gr_mut {B H : Hp} {q : Addr} {ob : HO} (g : Gr B H) (h : B q = none) : Gr B (upd H q ob) := fun b o e => by
  have nb : b ≠ q := fun z => by rw [z, h] at e; cases e
  rw [upd_ne nb]
  exact g b o e
/-- x.append(e) -/
theorem ds_append [on : On G X lv] (i : Nat) {x : Str} {ds : List PyData} {d : PyData} {apos epos : Pos} (hs : r.sl[i]? = some (some (.own ds)) := by rfl) (he : DW G X e r (.dat d)) (him : im d = true) (hz : ds.length < 100000)
    (hN : X.N[i]? = some x := by rfl) (hv : Vis X.env.scope x := by first | exact Or.inl rfl | exact Or.inr (Or.inl rfl)) (hd : (x == ("__debug__" : Str)) = false := by decide) (hcd : (x == ("__classdict__" : Str)) = false := by decide)
    (pe : ∀ {to : TE} {t : TA}, PE X (.Name x p) to → PA X [e] t → PE X (.Call (.Attribute (.Name x p) "append" apos) [e] [] pos) (tBM X.K "list" rAppend to t) := by exact fun h1 h2 => pe_bm PySem.F.plainAttrs_list PySem.F.slot_list_append PySem.F.type_list_append mt_append h1 h2)
    (hsw : swapsWith (.Call (.Attribute (.Name x p) "append" apos) [e] [] pos) none epos.line X.env = pure false := by rfl) (hst : starEach [e] X.env = [(false, eval e X.env)] := by rfl) :
    DS G X (.Expr (.Call (.Attribute (.Name x p) "append" apos) [e] [] pos) epos) r (.nx (r.putS i (.own (ds ++ [d])))) := fun B => by
  obtain ⟨⟨CT, CB, rfl⟩, _⟩ := on
  refine liftS (ps_expr (pe (pe_var hN hv hd hcd) (pa_cons he pa_nil hst)) hsw) fun D σ H ⟨⟨gB, O, f, hO⟩, k⟩ => ?_
  obtain ⟨v, ev, him0, l, xs, rfl, hl, hH, hd0⟩ := f.at_ i _ hs
  refine ⟨.ref l, ev, .inl ⟨rfl, xs, .of hH⟩, O, f, fun y H1 g1 r1 => ?_⟩
  have f1 := f.gr g1
  refine ⟨l, xs, y, rfl, rfl, g1 _ _ hH, ?_, ?_⟩
  · have h1 := dps_len hd0
    exact Nat.lt_of_lt_of_le (by omega : xs.length < 100000) (size100 (Nat.le_refl _))
  · refine k _ _ ⟨gr_mut (gB.trans g1) (hO l hl), O, f1.mut hl trivial ev hs rfl rfl ⟨ims_append him0 (by simp [ims, him]), l, _, rfl, hl, upd_same, ?_⟩, hO⟩
    rw [hid_upd hl]
    exact dps_append (dps_gr (hid_gr g1) _ _ hd0) (dps_one (dp_tk f1.tk d y him r1))
/-- x.extend(e), e a new list -/
theorem ds_extend [on : On G X lv] (i : Nat) {x : Str} {ds ys : List PyData} {apos epos : Pos} (hs : r.sl[i]? = some (some (.own ds)) := by rfl) (he : DN G X e r ys) (hz : ds.length + ys.length ≤ 100000)
    (hN : X.N[i]? = some x := by rfl) (hv : Vis X.env.scope x := by first | exact Or.inl rfl | exact Or.inr (Or.inl rfl)) (hd : (x == ("__debug__" : Str)) = false := by decide) (hcd : (x == ("__classdict__" : Str)) = false := by decide)
    (pe : ∀ {to : TE} {t : TA}, PE X (.Name x p) to → PA X [e] t → PE X (.Call (.Attribute (.Name x p) "extend" apos) [e] [] pos) (tBM X.K "list" rExtend to t) := by exact fun h1 h2 => pe_bm PySem.F.plainAttrs_list PySem.F.slot_list_extend PySem.F.type_list_extend mt_extend h1 h2)
    (hsw : swapsWith (.Call (.Attribute (.Name x p) "extend" apos) [e] [] pos) none epos.line X.env = pure false := by rfl) (hst : starEach [e] X.env = [(false, eval e X.env)] := by rfl) :
    DS G X (.Expr (.Call (.Attribute (.Name x p) "extend" apos) [e] [] pos) epos) r (.nx (r.putS i (.own (ds ++ ys)))) := fun B => by
  obtain ⟨⟨CT, CB, rfl⟩, _⟩ := on
  refine liftS (ps_expr (pe (pe_var hN hv hd hcd) (pa_cons he.2 pa_nil hst)) hsw) fun D σ H ⟨⟨gB, O, f, hO⟩, k⟩ => ?_
  obtain ⟨v, ev, him0, l, xs, rfl, hl, hH, hd0⟩ := f.at_ i _ hs
  refine ⟨.ref l, ev, .inl ⟨rfl, xs, .of hH⟩, O, f, fun q zs H1 n g1 e1 r1 => ?_⟩
  have f1 := f.gr g1
  refine ⟨l, q, xs, zs, rfl, rfl, g1 _ _ hH, e1, ?_, ?_⟩
  · have h1 := dps_len hd0
    have h2 := dps_len r1
    exact size100 (by omega)
  · refine k _ _ ⟨gr_mut (gB.trans g1) (hO l hl), O, f1.mut hl trivial ev hs rfl rfl ⟨ims_append him0 he.1, l, _, rfl, hl, upd_same, ?_⟩, hO⟩
    rw [hid_upd hl]
    exact dps_append (dps_gr (hid_gr g1) _ _ hd0) (dps_tk f1.tk ys zs he.1 r1)
/-- y = x.pop() -/
theorem ds_pop [on : On G X lv] (i j : Nat) {x y : Str} {ds : List PyData} {d : PyData} {apos py : Pos} (hs : r.sl[i]? = some (some (.own (ds ++ [d]))) := by rfl) (hij : i ≠ j := by decide)
    (hN : X.N[i]? = some x := by rfl) (hv : Vis X.env.scope x := by first | exact Or.inl rfl | exact Or.inr (Or.inl rfl)) (hd : (x == ("__debug__" : Str)) = false := by decide) (hcd : (x == ("__classdict__" : Str)) = false := by decide)
    (hj : X.N[j]? = some y := by rfl) (hy : Loc X.env.scope y := by first | exact Or.inl rfl | exact Or.inr rfl) (hf : X.fn y = true ∨ X.env.scope.names.lookup y = some .local := by first | exact .inl rfl | exact .inr rfl)
    (pe : ∀ {to : TE}, PE X (.Name x p) to → PE X (.Call (.Attribute (.Name x p) "pop" apos) [] [] pos) (tBM0 X.K "list" rPop to) := by exact fun h1 => pe_bm0 PySem.F.plainAttrs_list PySem.F.slot_list_pop PySem.F.type_list_pop (mt_pop) h1)
    (hsw : swapsWith (.Call (.Attribute (.Name x p) "pop" apos) [] [] pos) (some (.Name y py)) p2.line X.env = pure false := by rfl) :
    DS G X (.Assign [.Name y py] (.Call (.Attribute (.Name x p) "pop" apos) [] [] pos) p2) r (.nx ((r.putS i (.own ds)).put j (.x (.dat d)))) := fun B => by
  have nd := on.nd
  obtain ⟨⟨CT, CB, rfl⟩, _⟩ := on
  refine liftS (ps_set nd hj hy (pe (pe_var hN hv hd hcd)) hsw hf) fun D σ H ⟨⟨gB, O, f, hO⟩, k⟩ => ?_
  obtain ⟨v, ev, him0, l, xs, rfl, hl, hH, hd0⟩ := f.at_ i _ hs
  have hlen := dps_len hd0
  rw [List.length_append, List.length_singleton] at hlen
  obtain ⟨ws, w', rfl⟩ : ∃ ws w', xs = ws ++ [w'] := by
    rcases List.eq_nil_or_concat xs with h | ⟨ws, w', h⟩
    · subst h; simp at hlen
    · exact ⟨ws, w', by rw [h, List.concat_eq_append]⟩
  have hw : DpAll X.K (hid O H) ws ds ∧ Dp X.K (hid O H) w' d := by
    have h1 := dps_take ds.length hd0
    have h2 := dps_drop ds.length hd0
    have e1 : ws.length = ds.length := by simpa using hlen
    rw [List.take_left] at h1
    rw [List.drop_left] at h2
    rw [← e1, List.take_left] at h1
    rw [← e1, List.drop_left] at h2
    cases h2 with
    | cons h3 _ => exact ⟨h1, h3⟩
  have him1 : ims ds = true ∧ im d = true := ⟨ims_of fun z hz => ims_mem him0 (List.mem_append_left _ hz), ims_mem him0 (List.mem_append_right _ (List.mem_singleton.mpr rfl))⟩
  refine ⟨.ref l, ev, .inl ⟨rfl, _, .of hH⟩, l, ws ++ [w'], w', rfl, rfl, hH, by simp, ?_⟩
  rw [List.dropLast_concat]
  have f2 : Fit ⟨X.prog, X.w, X.K, X.mg, X.base, CT, CB⟩ O (upd H l (.lst ws)) σ (r.putS i (.own ds)) := f.mut hl trivial ev hs rfl rfl ⟨him1.1, l, ws, rfl, hl, upd_same, by rw [hid_upd hl]; exact hw.1⟩
  refine k _ _ ⟨gr_mut gB (hO l hl), O, f2.put j (d := .dat d) ?_, hO⟩
  rw [hid_upd hl]
  exact hw.2
/-- x.clear() -/
theorem ds_clear [on : On G X lv] (i : Nat) {x : Str} {ds : List PyData} {apos epos : Pos} (hs : r.sl[i]? = some (some (.own ds)) := by rfl)
    (hN : X.N[i]? = some x := by rfl) (hv : Vis X.env.scope x := by first | exact Or.inl rfl | exact Or.inr (Or.inl rfl)) (hd : (x == ("__debug__" : Str)) = false := by decide) (hcd : (x == ("__classdict__" : Str)) = false := by decide)
    (pe : ∀ {to : TE}, PE X (.Name x p) to → PE X (.Call (.Attribute (.Name x p) "clear" apos) [] [] pos) (tBM0 X.K "list" rClear to) := by exact fun h1 => pe_bm0 PySem.F.plainAttrs_list PySem.F.slot_list_clear PySem.F.type_list_clear (mt_clear) h1)
    (hsw : swapsWith (.Call (.Attribute (.Name x p) "clear" apos) [] [] pos) none epos.line X.env = pure false := by rfl) :
    DS G X (.Expr (.Call (.Attribute (.Name x p) "clear" apos) [] [] pos) epos) r (.nx (r.putS i (.own []))) := fun B => by
  obtain ⟨⟨CT, CB, rfl⟩, _⟩ := on
  refine liftS (ps_expr (pe (pe_var hN hv hd hcd)) hsw) fun D σ H ⟨⟨gB, O, f, hO⟩, k⟩ => ?_
  obtain ⟨v, ev, him0, l, xs, rfl, hl, hH, hd0⟩ := f.at_ i _ hs
  refine ⟨.ref l, ev, .inl ⟨rfl, _, .of hH⟩, l, xs, rfl, rfl, hH, ?_⟩
  exact k _ _ ⟨gr_mut gB (hO l hl), O, f.mut hl trivial ev hs rfl rfl ⟨rfl, l, [], rfl, hl, upd_same, .nil⟩, hO⟩

/-! ### defs -/
def startE (n : Nat) (ds : List XD) : DEnv := ⟨ds.map (fun d => some (.x d)) ++ List.replicate (n - ds.length) none, true⟩
/-- the context of a def's body -/
abbrev Bx (G : Gx) (N : List Str) (qual : Str) (st : Stmt) (f : Addr) (cdv : Value) (A : Around) (outer : List Env) (s : Shared) (H : Hp) (E : XK) : Cx := (cxOf CX0 G.P G.w G.K G.mg G.base N qual (defScope st) f cdv A outer s H E).nox
theorem repAll_len {H : Hp} {vs : List V} {ds : List XD} (h : RepAll G H vs ds) : vs.length = ds.length := Paired.length h
theorem fit_start {H : Hp} {N : List Str} {vs : List V} {ds : List XD} (h : RepAll G H vs ds) (hn : ds.length ≤ N.length) : Fit G [] H (L2.start N vs) (startE N.length ds) where
  len := by
    have := repAll_len h
    simp [L2.start, startE]
    omega
  at_ := fun i s hs => by
    have hl := repAll_len h
    have hs' : (ds.map (fun d => some (Slot.x d)) ++ List.replicate (N.length - ds.length) none)[i]? = some (some s) := hs
    by_cases hi : i < ds.length
    · rw [List.getElem?_append_left (by simpa using hi), List.getElem?_map] at hs'
      cases e : ds[i]? with
      | none => rw [e] at hs'; cases hs'
      | some d =>
        rw [e] at hs'
        cases hs'
        have : ∀ {vs : List V} {ds : List XD} {i : Nat} {d : XD}, RepAll G H vs ds → ds[i]? = some d → ∃ v, vs[i]? = some v ∧ Rep G H v d := by
          intro vs ds i d h
          induction h generalizing i with
          | nil => intro e; simp at e
          | cons p t ih =>
            intro e
            cases i with
            | zero => simp at e; subst e; exact ⟨_, rfl, p⟩
            | succ i => exact ih (by simpa using e)
        obtain ⟨v, e1, q⟩ := this h e
        refine ⟨v, ?_, by rw [SlotOk, hid_nil]; exact q⟩
        unfold L2.start
        rw [List.getElem?_append_left (by simp; omega), List.getElem?_map, e1]
        rfl
    · rw [List.getElem?_append_right (by simpa using hi), List.getElem?_replicate] at hs'
      split at hs' <;> cases hs'
  dis := fun i j s t h1 h2 o1 _ _ => by
    have hs' : (ds.map (fun d => some (Slot.x d)) ++ List.replicate (N.length - ds.length) none)[i]? = some (some s) := h1
    by_cases hi : i < ds.length
    · rw [List.getElem?_append_left (by simpa using hi), List.getElem?_map] at hs'
      cases e : ds[i]? with
      | none => rw [e] at hs'; cases hs'
      | some d => rw [e] at hs'; cases hs'; cases o1
    · rw [List.getElem?_append_right (by simpa using hi), List.getElem?_replicate] at hs'
      split at hs' <;> cases hs'
  tr := fun a h => by cases h
  pu := fun _ => rfl
/-- what a body's end hands back -/
def Ends1 (o : Out) (d : XD) : Prop := o = .rt d ∨ ((∃ r, o = .nx r) ∧ d = .dat .none)
theorem on_bx {k : Nat} (gl : Glob G) {N : List Str} {qual : Str} {st : Stmt} {f : Addr} {cdv : Value} {A : Around} {outer : List Env} {s : Shared} {H : Hp} {E : XK} (nd : N.Nodup) (hr : Room k (A.deeper (PyProof.Rows.envOfC qual (defScope st) s.heap.objs.size f cdv))) : On G (Bx G N qual st f cdv A outer s H E) k :=
  ⟨⟨G.CT, G.CB, rfl⟩, rfl, hr, nd, gl⟩
theorem fn_ok {k : Nat} {x qual : Str} {f : Addr} {fd : FuncData} {N ps : List Str} {R : List XD → XD → Prop} (gl : Glob G) (F : Fun G.K x qual st f fd) (S : FnScope N ps (defScope st)) (hR : ∀ ds d, R ds d → ds.length = ps.length)
    (body : ∀ (cdv : Value) (A : Around) (outer : List Env) (s : Shared) (H : Hp) (E : XK) (on : On G (Bx G N qual st f cdv A outer s H E) k) (ds : List XD) (d : XD), R ds d → ∃ o, DB G (Bx G N qual st f cdv A outer s H E) (defBody st) (startE N.length ds) o ∧ Ends1 o d) :
    FnOk G.P G.w G.K G.mg G.base CX0 (k + 1) f fd ps (spR G R) := by
  refine F.ok S (fun vs H Q E h => ?_) (fun cdv A outer s H vs Q E hr h => ?_)
  · obtain ⟨ds, d, h1, h2, _⟩ := h
    rw [repAll_len h1, hR ds d h2]
  · obtain ⟨ds, d, h1, h2, h3⟩ := h
    have hpl : ps.length ≤ N.length := by have := congrArg List.length S.pre; rw [List.length_take] at this; omega
    obtain ⟨o, hb, he⟩ := body cdv A outer s H E (on_bx gl S.nd hr) ds d h2
    refine ⟨_, hb H, ⟨Gr.refl H, [], fit_start h1 (by rw [hR ds d h2]; exact hpl), fun a ha => by cases ha⟩, ?_⟩
    rcases he with rfl | ⟨⟨r, rfl⟩, rfl⟩
    · exact fun v H1 g1 r1 => h3 v H1 g1 r1
    · exact fun σ H1 f1 => h3 _ H1 f1.1 .non
theorem def_ok {k : Nat} {x qual : Str} {f : Addr} {fd : FuncData} {N ps : List Str} {R : List XD → XD → Prop} (gl : Glob G) (F : Fun G.K x qual st f fd) (S : FnScope N ps (defScope st)) (hm : G.mg x = some (.ref f)) (b : Binds G.K fd ps []) (hR : ∀ ds d, R ds d → ds.length = ps.length)
    (body : ∀ (cdv : Value) (A : Around) (outer : List Env) (s : Shared) (H : Hp) (E : XK) (on : On G (Bx G N qual st f cdv A outer s H E) k) (ds : List XD) (d : XD), R ds d → ∃ o, DB G (Bx G N qual st f cdv A outer s H E) (defBody st) (startE N.length ds) o ∧ Ends1 o d) :
    Def G (k + 1) x R := ⟨f, fd, ps, fn_ok gl F S hR body, hm, F.kp, b⟩
end
end RC

/-! RcK: the text by places; small defs. -/
namespace RC
open PySem L2
open PySem.W (Datum DatumOrd Tup T3 Holds HoldAll minOf maxOf EachIs)
def top (i : Nat) : Stmt := PySem.Challenge.pw_runcolumns_k21_whole_ties.main.body.getD i (.Pass ⟨0, 0, 0, 0⟩)

section
variable {G : Gx} {X : Cx} {lv : Nat} {r : DEnv} {e tg : Expr} {α : Type} [DecidableEq α] [Datum α]
theorem map_dat (xs : List α) : (Ds xs).map XD.dat = xs.map fun x => D x := List.map_map
theorem di_listD [o : On G X lv] {xs : List α} (h : DE G X e r (D xs)) : DI G X tg e r (xs.map fun x => D x) := by
  have := di_list (tg := tg) (ds := Ds xs) h
  rw [map_dat] at this
  exact this
theorem di_tupD [o : On G X lv] {xs : List α} (h : DE G X e r (D (Tup.mk xs))) : DI G X tg e r (xs.map fun x => D x) := by
  have := di_tup (tg := tg) (ds := Ds xs) h
  rw [map_dat] at this
  exact this
end

abbrev sWithout : Stmt := top 22
theorem scWithout : FnScope ["lot", "thing", "one"] ["lot", "thing"] (defScope sWithout) := ⟨rfl, rfl, rfl, by decide +kernel, rfl, by decide +kernel, by decide +kernel⟩
def RWithout (ds : List XD) (d : XD) : Prop := ∃ (lot : List Row) (thing : Row), ds = [D (Tup.mk lot), D thing] ∧ d = D (Tup.mk (lot.filter fun x => decide (x ≠ thing))) ∧ lot.length ≤ 1000
theorem def_without {G : Gx} (gl : Glob G) {f : Addr} {fd : FuncData} (F : Fun G.K "without" "without" sWithout f fd) (hm : G.mg "without" = some (.ref f)) (b : Binds G.K fd ["lot", "thing"] []) : Def G 1 "without" RWithout := by
  refine def_ok gl F scWithout hm b (fun ds d h => ?_) fun cdv A outer s H E on ds d hR => ?_
  · obtain ⟨_, _, rfl, _⟩ := h
    rfl
  · obtain ⟨lot, thing, rfl, rfl, hz⟩ := hR
    refine ⟨_, db_one (ds_ret (dw_tuple (dn_w (dn_lc (t := .one 2) (own := [("one", 2)]) lot (fun x => D x) (fun x => decide (x ≠ thing)) (fun x => toD x) (di_tupD (dv 0)) (blkOk_by (N := ["lot", "thing", "one"]) (sc := defScope sWithout) (by decide +kernel)) (by decide) (fun _ _ _ _ _ => dg_one scWithout.nd 2)
      (fun _ _ _ _ _ x _ => pts_one (dt_ne (x := x) (y := thing) (dv' 2) (dv' 1))) (fun _ _ _ _ _ x _ _ => dv' 2) (fun x _ => trivial) (fun x _ _ => Imm.imm x) (Nat.le_trans hz (by decide)))))), .inl rfl⟩
end RC

/-! RcL: comprehensions that are given to a name, of two clauses; further walks and displays. -/
namespace RC
open PySem L2
open PySem.W (Datum DatumOrd Tup T3 Holds HoldAll minOf maxOf EachIs)

section
variable {G : Gx} {X : Cx} {lv : Nat} {r : DEnv} {a b c e elt tg iter tg1 iter1 : Expr} {es ifs ifs1 : List Expr} {scope : Scope} {own : List (Str × Nat)} {vs1 : List Nat} {pos spos p py : Pos} {α β : Type}
/-- a new list for a name: kept as it is, or as one's own -/
inductive NewS (ds : List PyData) : Slot → Prop where
  | x : NewS ds (.x (.dat (.list ds)))
  | own : NewS ds (.own ds)
theorem NewS.ok {O : List Addr} {H H' : Hp} {σ : L2.St} {ds : List PyData} {s : Slot} (n : NewS ds s) (f : Fit G O H σ r) (g : Gr H H') (him : ims ds = true) {q : Addr} {xs : List V} (h1 : H q = none) (h2 : H' q = some (.lst xs)) (h3 : DpAll G.K H' xs ds) : NewOk G O H H' (.ref q) s := by
  cases n with
  | x =>
    have hp : q ∉ O := fun z => by
      obtain ⟨o, e3, _⟩ := f.tr q z
      rw [h1] at e3; cases e3
    exact .lst (.of ((hid_out hp).trans h2)) (dps_tk (f.tk' g) ds _ him h3)
  | own => exact ⟨him, q, xs, rfl, h1, h2, h3⟩
/-- name = [..] on one line, the name a local -/
theorem ds_setLc [o : On G X lv] (i : Nat) {y : Str} {s : Slot} {t : Tg} (xs : List α) (en : α → XD) (pr : α → Bool) (f : α → PyData) (hs : NewS ((xs.filter pr).map f) s) (hi : DI G X tg iter r (xs.map en)) (ok : BlkOk X.N X.env.scope scope own) (hv : ∀ i, i ∈ t.slots → i ∈ own.map (·.2))
    (hg : ∀ s H C cl fp, PG (Blk X scope s H C cl fp) tg (tgR X.K t))
    (ht : ∀ s H C cl fp x, x ∈ xs → PTs (Blk X scope s H C cl fp) ifs (tT G (bindE (r.wipe (own.map (·.2))) t (en x)) (pr x)))
    (he : ∀ s H C cl fp x, x ∈ xs → pr x = true → DW G (Blk X scope s H C cl fp) elt (bindE (r.wipe (own.map (·.2))) t (en x)) (.dat (f x)))
    (hm : ∀ x, x ∈ xs → tgOk t (en x)) (hf : ∀ x, x ∈ xs → pr x = true → im (f x) = true) (hz : xs.length ≤ 100000)
    (hy : X.N[i]? = some y := by rfl) (hyl : X.env.scope.names.lookup y = some .local := by rfl) (hsw : swapsWith (.ListComp elt [⟨tg, iter, ifs, 0⟩] scope pos) (some (.Name y py)) spos.line X.env = pure true := by exact sw_true rfl rfl rfl (by decide +kernel)) (hs2 : ∀ x, foldedSetIterable iter X.env x = pure x := by intro _; rfl) :
    DS G X (.Assign [.Name y py] (.ListComp elt [⟨tg, iter, ifs, 0⟩] scope pos) spos) r (.nx (r.putS i s)) := fun B => by
  obtain ⟨tt, te, h1, h2, h3⟩ := lc_core xs en pr f hv ht he hm hf hz
  have him := ims_fm hf
  refine liftS (ps_setLc o.calm o.nd hy hyl hsw hi ok hg h1 h2 hs2) fun D σ H ⟨⟨gB, O, f, hO⟩, k⟩ => ?_
  exact h3 σ H _ ⟨O, f, fun q ws H1 n g1 e1 r1 => k _ _ (FitB.store gB hO f g1 (hs.ok f g1 him n e1 r1) i)⟩

/-! ### two clauses -/
/-- the inner items of one turn -/
structure In2 (α β : Type) where
  ys : α → List β
  en1 : β → XD
  pr : α → β → Bool
  f : α → β → PyData
def In2.out {α β : Type} (q : In2 α β) (x : α) : List PyData := ((q.ys x).filter (q.pr x)).map (q.f x)
def DEnv.shut (r : DEnv) : DEnv := { r with pu := false }
theorem hid_hid {O : List Addr} {D : Addr} (H : Hp) : hid O (hid [D] H) = hid (D :: O) H := by
  funext a
  unfold hid
  by_cases h : a ∈ O
  · rw [if_pos h, if_pos (List.mem_cons_of_mem _ h)]
  · rw [if_neg h]
    by_cases e : a = D
    · subst e; simp
    · simp [h, e]
theorem Fit.reveal {O : List Addr} {H : Hp} {σ : L2.St} {D : Addr} {o : HO} (f : Fit G O (hid [D] H) σ r) (h : H D = some o) (n : NoT o) : Fit G (D :: O) H σ r.shut where
  len := f.len
  at_ := fun i s hs => by
    obtain ⟨v, e, q⟩ := f.at_ i s hs
    refine ⟨v, e, ?_⟩
    cases s with
    | x d =>
      have q' : Rep G (hid O (hid [D] H)) v d := q
      rw [hid_hid] at q'
      exact q'
    | own ds =>
      obtain ⟨i, a, xs, e1, h1, h2, h3⟩ := q
      rw [hid_hid] at h3
      exact ⟨i, a, xs, e1, List.mem_cons_of_mem _ h1, hid_le _ _ _ _ h2, h3⟩
    | ownD kvs =>
      obtain ⟨a, xs, e1, h1, h2, h3⟩ := q
      rw [hid_hid] at h3
      exact ⟨a, xs, e1, List.mem_cons_of_mem _ h1, hid_le _ _ _ _ h2, h3⟩
    | ownB bs =>
      obtain ⟨a, xs, e1, h1, h2, h3⟩ := q
      rw [hid_hid] at h3
      exact ⟨a, xs, e1, List.mem_cons_of_mem _ h1, hid_le _ _ _ _ h2, h3⟩
  dis := f.dis
  tr := fun a ha => by
    rcases List.mem_cons.mp ha with rfl | ha
    · exact ⟨o, h, n⟩
    · obtain ⟨u, e, q⟩ := f.tr a ha
      exact ⟨u, hid_le _ _ _ _ e, q⟩
  pu := fun e => by cases e
theorem gs_go2 {O : List Addr} {H H0 : Hp} {Q : L2.St → Hp → Prop} : ∀ {is : List Nat} {ds : List PyData} {vs : List V} {σ : L2.St} {r : DEnv}, Fit G O H0 σ r → DpAll G.K (hid O H0) vs ds → ds.length = is.length →
    (∀ σ', Fit G O H0 σ' (putAll r is ds) → (∀ us : List Nat, (∀ i, i ∈ is → i ∈ us) → L2.wipe σ' us = L2.wipe σ us) → Q σ' H) → gs is vs σ H Q
  | [], [], _, σ, r, f, h, _, k => by
    cases h
    exact ⟨rfl, k σ f fun _ _ => rfl⟩
  | [], _ :: _, _, _, _, _, _, e, _ => by simp at e
  | _ :: _, [], _, _, _, _, _, e, _ => by simp at e
  | i :: is, d :: ds, _, σ, r, f, h, e, k => by
    cases h with
    | cons h1 h2 =>
      refine ⟨_, _, rfl, gs_go2 (f.put i (d := .dat d) h1) h2 (by simpa using e) fun σ' f' w => k σ' f' fun us hu => ?_⟩
      rw [w us fun j hj => hu j (List.mem_cons_of_mem _ hj), wipe_set_in (hu i List.mem_cons_self)]
/-- as tgR_go, what stands for the data in a part of the heap -/
theorem tgR_go2 {O : List Addr} {H H0 : Hp} {Q : L2.St → Hp → Prop} {t : Tg} {d : XD} {v : V} {σ : L2.St} {r : DEnv} (g : Gr H0 H) (f : Fit G O H0 σ r) (h : Rep G (hid O H0) v d) (e : tgOk t d)
    (k : ∀ σ', Fit G O H0 σ' (bindE r t d) → (∀ us : List Nat, (∀ i, i ∈ t.slots → i ∈ us) → L2.wipe σ' us = L2.wipe σ us) → Q σ' H) : tgR G.K t v σ H Q := by
  cases t with
  | one i => exact k _ (f.put i h) fun us hu => wipe_set_in (hu i List.mem_cons_self)
  | tup is =>
    cases d with
    | dat d =>
      cases d with
      | tuple ds =>
        obtain ⟨a, xs, rfl, h1, h2⟩ := dp_tup h
        exact ⟨a, xs, rfl, g.sqT ((hid_le O H0).sqT h1), (dps_len h2).trans e, gs_go2 f h2 e k⟩
      | _ => exact e.elim
    | _ => exact e.elim
/-- the list at D, as far as it has come -/
def AccP (K : PySem.W.Frag) (H1 : Hp) (D : Addr) (n : Nat) (es : List PyData) (H2 : Hp) : Prop := Gr H1 (hid [D] H2) ∧ ∃ ws, H2 D = some (.lst ws) ∧ ws.length ≤ n ∧ DpAll K H2 ws es
theorem gr_hidD {H H' : Hp} (D : Addr) (g : Gr H H') : Gr (hid [D] H) (hid [D] H') := hid_gr g
theorem AccP.gr {K : PySem.W.Frag} {H1 H2 H3 : Hp} {D : Addr} {n : Nat} {es : List PyData} (h : AccP K H1 D n es H2) (g : Gr H2 H3) : AccP K H1 D n es H3 := by
  obtain ⟨g1, ws, h1, h2, h3⟩ := h
  exact ⟨g1.trans (hid_gr g), ws, g _ _ h1, h2, dps_gr g _ _ h3⟩
theorem AccP.push {K : PySem.W.Frag} {H1 H2 : Hp} {D : Addr} {n : Nat} {es : List PyData} {y : V} {d : PyData} (h : AccP K H1 D n es H2) (hi : ims es = true) (hd : im d = true) (hy : Dp K H2 y d) :
    ∃ acc, H2 D = some (.lst acc) ∧ acc.length ≤ n ∧ AccP K H1 D (n + 1) (es ++ [d]) (upd H2 D (.lst (acc ++ [y]))) := by
  obtain ⟨g1, ws, h1, h2, h3⟩ := h
  refine ⟨ws, h1, h2, by rw [hid_upd (by simp)]; exact g1, ws ++ [y], upd_same, by simp; omega, ?_⟩
  have tk : Tk H2 (upd H2 D (.lst (ws ++ [y]))) := fun b zs hb' => by
    have nb : b ≠ D := fun z => by
      subst z
      rcases hb' with hb' | ⟨_, hb'⟩ <;> (rw [h1] at hb'; cases hb')
    rcases hb' with hb' | ⟨ob, hb'⟩
    · exact .inl ((upd_ne nb).trans hb')
    · exact .inr ⟨ob, (upd_ne nb).trans hb'⟩
  exact dps_tk tk _ _ (ims_append hi (by simp [ims, hd])) (dps_append h3 (dps_one hy))
theorem lc2_core [o : On G X lv] {t t1 : Tg} (xs : List α) (en : α → XD) (q : In2 α β) {vs vs1 : List Nat} (hv : ∀ i, i ∈ t.slots → i ∈ vs) (hv1 : ∀ i, i ∈ t1.slots → i ∈ vs1)
    (hi1 : ∀ s H C cl fp x, x ∈ xs → DI G (Blk X scope s H C cl fp) tg1 iter1 (bindE (r.wipe vs) t (en x)).shut ((q.ys x).map q.en1))
    (ht1 : ∀ s H C cl fp x y, x ∈ xs → y ∈ q.ys x → PTs (Blk X scope s H C cl fp) ifs1 (tT G (bindE ((bindE (r.wipe vs) t (en x)).wipe vs1) t1 (q.en1 y)).shut (q.pr x y)))
    (he : ∀ s H C cl fp x y, x ∈ xs → y ∈ q.ys x → q.pr x y = true → DW G (Blk X scope s H C cl fp) elt (bindE ((bindE (r.wipe vs) t (en x)).wipe vs1) t1 (q.en1 y)).shut (.dat (q.f x y)))
    (hm : ∀ x, x ∈ xs → tgOk t (en x)) (hm1 : ∀ x y, x ∈ xs → y ∈ q.ys x → tgOk t1 (q.en1 y)) (hf : ∀ x y, x ∈ xs → y ∈ q.ys x → q.pr x y = true → im (q.f x y) = true) (hz : (xs.flatMap q.ys).length ≤ 100000) :
    ∃ (wi1 : TI) (tt1 : TT) (te : TE), (∀ s H C cl fp, PI (Blk X scope s H C cl fp) tg1 iter1 wi1) ∧ (∀ s H C cl fp, PTs (Blk X scope s H C cl fp) ifs1 tt1) ∧ (∀ s H C cl fp, PE (Blk X scope s H C cl fp) elt te) ∧
      ∀ σ H Q, tN G r (xs.flatMap q.out) σ H Q → tLc2 (tI G r (xs.map en)) (tgR X.K t) tYes wi1 (tgR X.K t1) tt1 te vs vs1 σ H Q := by
  obtain ⟨⟨CT, CB, rfl⟩, hc, _, nd, gl⟩ := o
  let wi1 : TI := fun σ H R => ∃ x, x ∈ xs ∧ tI ⟨X.prog, X.w, X.K, X.mg, X.base, CT, CB⟩ (bindE (r.wipe vs) t (en x)).shut ((q.ys x).map q.en1) σ H R
  let tt : TT := fun σ H Q => ∃ x y, x ∈ xs ∧ y ∈ q.ys x ∧ tT ⟨X.prog, X.w, X.K, X.mg, X.base, CT, CB⟩ (bindE ((bindE (r.wipe vs) t (en x)).wipe vs1) t1 (q.en1 y)).shut (q.pr x y) σ H Q
  let te : TE := fun σ H Q => ∃ x y, x ∈ xs ∧ y ∈ q.ys x ∧ q.pr x y = true ∧ tW ⟨X.prog, X.w, X.K, X.mg, X.base, CT, CB⟩ (bindE ((bindE (r.wipe vs) t (en x)).wipe vs1) t1 (q.en1 y)).shut (.dat (q.f x y)) σ H Q
  have hi' : ∀ s H C cl fp, PI (Blk X scope s H C cl fp) tg1 iter1 wi1 := fun s H C cl fp => ⟨fun pins s' σ H' R I ⟨x, hx, z⟩ => (hi1 s H C cl fp x hx).run pins s' σ H' R I z⟩
  have ht' : ∀ s H C cl fp, PTs (Blk X scope s H C cl fp) ifs1 tt := fun s H C cl fp => ⟨fun pins s' σ H' Q I ⟨x, y, hx, hy, z⟩ => (ht1 s H C cl fp x y hx hy).run pins s' σ H' Q I z⟩
  have he' : ∀ s H C cl fp, PE (Blk X scope s H C cl fp) elt te := fun s H C cl fp => ⟨fun pins s' σ H' Q I ⟨x, y, hx, hy, hp, z⟩ => (he s H C cl fp x y hx hy hp).run pins s' σ H' Q I z⟩
  refine ⟨wi1, tt, te, hi', ht', he', fun σ H Q ⟨O, fit, k⟩ => ⟨O, fit, fun J H1 g1 w => fun D hD => ?_⟩⟩
  rw [List.length_map] at w
  have imout : ∀ x, x ∈ xs → ims (q.out x) = true := fun x hx => ims_of fun z hz' => by
    obtain ⟨y, hy, rfl⟩ := List.mem_map.mp hz'
    obtain ⟨h1, h2⟩ := List.mem_filter.mp hy
    exact hf x y hx h1 h2
  have imtk : ∀ i, ims ((xs.take i).flatMap q.out) = true := fun i => ims_of fun z hz' => by
    obtain ⟨x, hx, hz2⟩ := List.mem_flatMap.mp hz'
    exact ims_mem (imout x (List.mem_of_mem_take hx)) hz2
  have impt : ∀ x j, x ∈ xs → ims ((((q.ys x).take j).filter (q.pr x)).map (q.f x)) = true := fun x j hx => ims_of fun z hz' => by
    obtain ⟨y, hy, rfl⟩ := List.mem_map.mp hz'
    obtain ⟨h1, h2⟩ := List.mem_filter.mp hy
    exact hf x y hx (List.mem_of_mem_take h1) h2
  have hDO : D ∉ O := fun z => by
    obtain ⟨u, e, _⟩ := (fit.gr g1).tr D z
    rw [hD] at e
    cases e
  have g0 : Gr H1 (hid [D] (upd H1 D (.lst []))) := by
    rw [hid_upd (by simp)]
    intro b ob hb
    have nb : b ≠ D := fun z => by rw [z, hD] at hb; cases hb
    rw [hid_out (by simp [nb])]
    exact hb
  refine ⟨fun i m H2 => m = xs.length - i ∧ i ≤ xs.length ∧ AccP X.K H1 D ((xs.take i).flatMap q.ys).length ((xs.take i).flatMap q.out) H2, ⟨xs.length, by simp, Nat.zero_le _, g0, [], upd_same, Nat.zero_le _, .nil⟩, ?_⟩
  rintro i m H2 ⟨rfl, hi, p⟩
  have gH : Gr H1 H2 := p.1.trans (hid_le _ _)
  have gw : Gr (hid O H1) H2 := (hid_le _ _).trans gH
  by_cases hlt : i < xs.length
  · refine .inr ⟨w.goes i H2 hlt gw, fun H3 => AccP X.K H1 D ((xs.take (i + 1)).flatMap q.ys).length ((xs.take (i + 1)).flatMap q.out) H3, fun H' p' => ⟨xs.length - (i + 1), by omega, rfl, hlt, p'⟩, fun v H3 yl => ?_⟩
    obtain ⟨g3, d, hd, hp⟩ := w.yields i H2 v H3 hlt gw yl
    obtain ⟨x, hx, rfl⟩ : ∃ x, xs[i]? = some x ∧ en x = d := by
      rw [List.getElem?_map] at hd
      cases e : xs[i]? with
      | none => rw [e] at hd; cases hd
      | some x => rw [e] at hd; exact ⟨x, rfl, Option.some.inj hd⟩
    have hmem := List.mem_of_getElem? hx
    have p3 := p.gr g3
    have et : xs.take (i + 1) = xs.take i ++ [x] := List.take_add_one.trans (by rw [hx]; rfl)
    have F3 : Fit ⟨X.prog, X.w, X.K, X.mg, X.base, CT, CB⟩ O (hid [D] H3) (L2.wipe σ vs) (r.wipe vs) := ((fit.gr g1).gr p3.1).wipe vs
    obtain ⟨ws3, hD3, hw3, _⟩ := p3.2
    have R3 : Rep ⟨X.prog, X.w, X.K, X.mg, X.base, CT, CB⟩ (hid O (hid [D] H3)) v (en x) := by
      rcases hp with hp | ⟨i1, hp⟩
      · exact rep_gr (hid_gr p3.1) hp
      · rw [hid_hid]
        exact rep_tk (F3.reveal hD3 trivial).tk i1 hp
    refine tgR_go2 (G := ⟨X.prog, X.w, X.K, X.mg, X.base, CT, CB⟩) (hid_le [D] H3) F3 R3 (hm x hmem) fun σ2 F4 hw => ⟨?_, ?_⟩
    · rw [hw _ hv]
      exact wipe_wipe fun u hu => hu
    · simp only [tYes, if_true]
      refine ⟨x, hmem, D :: O, F4.reveal hD3 trivial, fun J1 H4 g4 w1 => ?_⟩
      rw [List.length_map] at w1
      have F4' := F4.gr (hid_gr (O := [D]) g4)
      have hlen : ((xs.take (i + 1)).flatMap q.ys).length = ((xs.take i).flatMap q.ys).length + (q.ys x).length := by rw [et]; simp
      have hbig : ((xs.take (i + 1)).flatMap q.ys).length ≤ 100000 := by
        refine Nat.le_trans ?_ hz
        have := congrArg List.length (congrArg (List.flatMap q.ys) (List.take_append_drop (i + 1) xs))
        rw [List.flatMap_append, List.length_append] at this
        omega
      refine ⟨fun j k H5 => k = (q.ys x).length - j ∧ j ≤ (q.ys x).length ∧ Gr (hid [D] H4) (hid [D] H5) ∧ AccP X.K H1 D (((xs.take i).flatMap q.ys).length + j) ((xs.take i).flatMap q.out ++ (((q.ys x).take j).filter (q.pr x)).map (q.f x)) H5,
        ⟨(q.ys x).length, by simp, Nat.zero_le _, Gr.refl _, by simpa using p3.gr g4⟩, ?_⟩
      rintro j k5 H5 ⟨rfl, hj, g5, p5⟩
      have gw1 : Gr (hid (D :: O) H4) H5 := ((hid_less H4 (O := D :: O) (O' := [D]) (by simp)).trans g5).trans (hid_le _ _)
      by_cases hlt1 : j < (q.ys x).length
      · refine .inr ⟨w1.goes j H5 hlt1 gw1, fun H6 => Gr (hid [D] H4) (hid [D] H6) ∧ AccP X.K H1 D (((xs.take i).flatMap q.ys).length + (j + 1)) ((xs.take i).flatMap q.out ++ (((q.ys x).take (j + 1)).filter (q.pr x)).map (q.f x)) H6, fun H' p' => ⟨(q.ys x).length - (j + 1), by omega, rfl, hlt1, p'⟩, fun v1 H6 yl1 => ?_⟩
        obtain ⟨g6, d1, hd1, hp1⟩ := w1.yields j H5 v1 H6 hlt1 gw1 yl1
        obtain ⟨y, hy, rfl⟩ : ∃ y, (q.ys x)[j]? = some y ∧ q.en1 y = d1 := by
          rw [List.getElem?_map] at hd1
          cases e : (q.ys x)[j]? with
          | none => rw [e] at hd1; cases hd1
          | some y => rw [e] at hd1; exact ⟨y, rfl, Option.some.inj hd1⟩
        have hmem1 := List.mem_of_getElem? hy
        have et1 : (q.ys x).take (j + 1) = (q.ys x).take j ++ [y] := List.take_add_one.trans (by rw [hy]; rfl)
        have p6 := p5.gr g6
        obtain ⟨ws6, hD6, hw6, _⟩ := p6.2
        have F6 := (F4'.gr (g5.trans (hid_gr g6))).wipe vs1
        have R6 : Rep ⟨X.prog, X.w, X.K, X.mg, X.base, CT, CB⟩ (hid O (hid [D] H6)) v1 (q.en1 y) := by
          rw [hid_hid]
          rcases hp1 with hp | ⟨i1, hp⟩
          · exact rep_gr (gr_hid (gw1.trans g6)) hp
          · exact rep_tk (F6.reveal hD6 trivial).tk i1 hp
        refine tgR_go2 (G := ⟨X.prog, X.w, X.K, X.mg, X.base, CT, CB⟩) (hid_le [D] H6) F6 R6 (hm1 x y hmem hmem1) fun σ3 F7 hw1 => ⟨?_, ?_⟩
        · rw [hw1 _ hv1]
          exact wipe_wipe fun u hu => hu
        · refine ⟨x, y, hmem, hmem1, D :: O, F7.reveal hD6 trivial, fun H7 g7 => ?_⟩
          have p7 := p6.gr g7
          cases hb : q.pr x y with
          | true =>
            refine iteT ⟨x, y, hmem, hmem1, hb, D :: O, (F7.reveal hD6 trivial).gr g7, fun z H8 g8 r8 => ?_⟩
            obtain ⟨acc, a1, a2, a3⟩ := (p7.gr g8).push (ims_append (imtk i) (impt x j hmem)) (hf x y hmem hmem1 hb) r8
            refine ⟨acc, a1, ?_, ?_, ?_⟩
            · have := size100 (Nat.le_refl 100000)
              omega
            · rw [hid_upd (by simp)]
              exact g5.trans (hid_gr ((g6.trans g7).trans g8))
            · have e9 : (xs.take i).flatMap q.out ++ (((q.ys x).take (j + 1)).filter (q.pr x)).map (q.f x) = (xs.take i).flatMap q.out ++ (((q.ys x).take j).filter (q.pr x)).map (q.f x) ++ [q.f x y] := by
                rw [et1, List.filter_append, List.map_append, List.append_assoc]
                simp [hb]
              rw [e9]
              exact a3
          | false =>
            refine iteF ⟨g5.trans (hid_gr (g6.trans g7)), ?_⟩
            have e9 : (xs.take i).flatMap q.out ++ (((q.ys x).take (j + 1)).filter (q.pr x)).map (q.f x) = (xs.take i).flatMap q.out ++ (((q.ys x).take j).filter (q.pr x)).map (q.f x) := by
              rw [et1, List.filter_append, List.map_append]
              simp [hb]
            rw [e9]
            obtain ⟨b1, b2, b3, b4, b5⟩ := p7
            exact ⟨b1, b2, b3, by omega, b5⟩
      · have e : j = (q.ys x).length := by omega
        subst e
        refine .inl ⟨w1.stops H5 gw1, ?_⟩
        have e9 : (xs.take (i + 1)).flatMap q.out = (xs.take i).flatMap q.out ++ q.out x := by rw [et]; simp
        rw [List.take_length] at p5
        show AccP _ _ _ _ _ _
        rw [e9, hlen]
        exact p5
  · have e : i = xs.length := by omega
    subst e
    rw [List.take_length] at p
    obtain ⟨_, ws, h1, _, h3⟩ := p
    exact .inl ⟨w.stops H2 gw, k D ws H2 (g1.back hD) (g1.trans gH) h1 h3⟩
theorem ims_fm2 {xs : List α} {q : In2 α β} (hf : ∀ x y, x ∈ xs → y ∈ q.ys x → q.pr x y = true → im (q.f x y) = true) : ims (xs.flatMap q.out) = true := ims_of fun z hz => by
  obtain ⟨x, hx, hz2⟩ := List.mem_flatMap.mp hz
  obtain ⟨y, hy, rfl⟩ := List.mem_map.mp hz2
  obtain ⟨h1, h2⟩ := List.mem_filter.mp hy
  exact hf x y hx h1 h2
theorem dn_lc2 [o : On G X lv] {t t1 : Tg} (xs : List α) (en : α → XD) (q : In2 α β) (vs1 : List Nat) (hi : DI G X tg iter r (xs.map en)) (ok : BlkOk X.N X.env.scope scope own) (hv : ∀ i, i ∈ t.slots → i ∈ own.map (·.2)) (hv1 : ∀ i, i ∈ t1.slots → i ∈ vs1) (hvv : ∀ i ∈ vs1, i ∈ own.map (·.2))
    (hg : ∀ s H C cl fp, PG (Blk X scope s H C cl fp) tg (tgR X.K t)) (hg1 : ∀ s H C cl fp, PG (Blk X scope s H C cl fp) tg1 (tgR X.K t1))
    (hi1 : ∀ s H C cl fp x, x ∈ xs → DI G (Blk X scope s H C cl fp) tg1 iter1 (bindE (r.wipe (own.map (·.2))) t (en x)).shut ((q.ys x).map q.en1))
    (ht1 : ∀ s H C cl fp x y, x ∈ xs → y ∈ q.ys x → PTs (Blk X scope s H C cl fp) ifs1 (tT G (bindE ((bindE (r.wipe (own.map (·.2))) t (en x)).wipe vs1) t1 (q.en1 y)).shut (q.pr x y)))
    (he : ∀ s H C cl fp x y, x ∈ xs → y ∈ q.ys x → q.pr x y = true → DW G (Blk X scope s H C cl fp) elt (bindE ((bindE (r.wipe (own.map (·.2))) t (en x)).wipe vs1) t1 (q.en1 y)).shut (.dat (q.f x y)))
    (hm : ∀ x, x ∈ xs → tgOk t (en x)) (hm1 : ∀ x y, x ∈ xs → y ∈ q.ys x → tgOk t1 (q.en1 y)) (hf : ∀ x y, x ∈ xs → y ∈ q.ys x → q.pr x y = true → im (q.f x y) = true) (hz : (xs.flatMap q.ys).length ≤ 100000) (hs : ∀ x, foldedSetIterable iter X.env x = pure x := by intro _; rfl) (hs1 : ∀ env x, foldedSetIterable iter1 env x = pure x := by intro _ _; rfl) :
    DN G X (.ListComp elt [⟨tg, iter, [], 0⟩, ⟨tg1, iter1, ifs1, 0⟩] scope pos) r (xs.flatMap q.out) := by
  obtain ⟨wi1, tt1, te, h1, h2, h3, h4⟩ := lc2_core xs en q hv hv1 hi1 ht1 he hm hm1 hf hz
  exact ⟨ims_fm2 hf, lift (pe_lc2 o.calm o.nd hi ok hvv hg (fun _ _ _ _ _ => pts_nil) h1 hg1 h2 h3 hs hs1) h4⟩
theorem ds_setLc2 [o : On G X lv] (i : Nat) {y : Str} {s : Slot} {t t1 : Tg} (xs : List α) (en : α → XD) (q : In2 α β) (vs1 : List Nat) (hns : NewS (xs.flatMap q.out) s) (hi : DI G X tg iter r (xs.map en)) (ok : BlkOk X.N X.env.scope scope own) (hv : ∀ i, i ∈ t.slots → i ∈ own.map (·.2)) (hv1 : ∀ i, i ∈ t1.slots → i ∈ vs1) (hvv : ∀ i ∈ vs1, i ∈ own.map (·.2))
    (hg : ∀ s H C cl fp, PG (Blk X scope s H C cl fp) tg (tgR X.K t)) (hg1 : ∀ s H C cl fp, PG (Blk X scope s H C cl fp) tg1 (tgR X.K t1))
    (hi1 : ∀ s H C cl fp x, x ∈ xs → DI G (Blk X scope s H C cl fp) tg1 iter1 (bindE (r.wipe (own.map (·.2))) t (en x)).shut ((q.ys x).map q.en1))
    (ht1 : ∀ s H C cl fp x y, x ∈ xs → y ∈ q.ys x → PTs (Blk X scope s H C cl fp) ifs1 (tT G (bindE ((bindE (r.wipe (own.map (·.2))) t (en x)).wipe vs1) t1 (q.en1 y)).shut (q.pr x y)))
    (he : ∀ s H C cl fp x y, x ∈ xs → y ∈ q.ys x → q.pr x y = true → DW G (Blk X scope s H C cl fp) elt (bindE ((bindE (r.wipe (own.map (·.2))) t (en x)).wipe vs1) t1 (q.en1 y)).shut (.dat (q.f x y)))
    (hm : ∀ x, x ∈ xs → tgOk t (en x)) (hm1 : ∀ x y, x ∈ xs → y ∈ q.ys x → tgOk t1 (q.en1 y)) (hf : ∀ x y, x ∈ xs → y ∈ q.ys x → q.pr x y = true → im (q.f x y) = true) (hz : (xs.flatMap q.ys).length ≤ 100000)
    (hy : X.N[i]? = some y := by rfl) (hyl : X.env.scope.names.lookup y = some .local := by rfl) (hsw : swapsWith (.ListComp elt [⟨tg, iter, [], 0⟩, ⟨tg1, iter1, ifs1, 0⟩] scope pos) (some (.Name y py)) spos.line X.env = pure true := by exact sw_true rfl rfl rfl (by decide +kernel)) (hs : ∀ x, foldedSetIterable iter X.env x = pure x := by intro _; rfl) (hs1 : ∀ env x, foldedSetIterable iter1 env x = pure x := by intro _ _; rfl) :
    DS G X (.Assign [.Name y py] (.ListComp elt [⟨tg, iter, [], 0⟩, ⟨tg1, iter1, ifs1, 0⟩] scope pos) spos) r (.nx (r.putS i s)) := fun B => by
  obtain ⟨wi1, tt1, te, h1, h2, h3, h4⟩ := lc2_core xs en q hv hv1 hi1 ht1 he hm hm1 hf hz
  have him := ims_fm2 (q := q) hf
  refine liftS (ps_setLc2 o.calm o.nd hy hyl hsw hi ok hvv hg (fun _ _ _ _ _ => pts_nil) h1 hg1 h2 h3 hs hs1) fun D σ H ⟨⟨gB, O, f, hO⟩, k⟩ => ?_
  exact h4 σ H _ ⟨O, f, fun q ws H1 n g1 e1 r1 => k _ _ (FitB.store gB hO f g1 (hns.ok f g1 him n e1 r1) i)⟩
end
end RC

/-! RcM: zip of three tuples, of two tuples; lists of pairs. -/
namespace RC
open PySem PySem.Spec PyProof.Rows L2
open PySem.W (Datum DatumOrd Tup T3 Holds HoldAll minOf maxOf EachIs)

/-- three tuples, the items in new tuples -/
def ItzT3 (K : PySem.W.Frag) (a b c : Addr) : It :=
  ⟨fun i H => ∃ (xs ys zs : List V) (x y z : V), SqT K H a xs ∧ SqT K H b ys ∧ SqT K H c zs ∧ xs[i]? = some x ∧ ys[i]? = some y ∧ zs[i]? = some z,
    fun i H v H' => ∃ T x y z, v = .ref T ∧ H T = none ∧ H' = upd H T (.tup [x, y, z]) ∧ (∀ xs, SqT K H a xs → xs[i]? = some x) ∧ (∀ ys, SqT K H b ys → ys[i]? = some y) ∧ ∀ zs, SqT K H c zs → zs[i]? = some z,
    fun i H => ∃ xs ys zs : List V, SqT K H a xs ∧ SqT K H b ys ∧ SqT K H c zs ∧ i ≤ xs.length ∧ i ≤ ys.length ∧ i ≤ zs.length ∧ (i = xs.length ∨ i = ys.length ∨ i = zs.length)⟩
theorem turn_zipT3 {P : Program} {w : World} {K : PySem.W.Frag} {elts : List Expr} {kk : Nat} {tpos : Pos} {a b c z TI TO i1 i2 i3 : Addr} (S : ZipSep3 z TI TO i1 i2 i3 [i1, a] [i2, b] [i3, c]) (na : a ≠ i1) (nb : b ≠ i2) (nc : c ≠ i3) :
    Turn P w K (.Tuple elts kk tpos) (ItzT3 K a b c) [z, TI, TO, i1, i2, i3] z (fun i h => IsZip h z TI TO .none ∧ IsTupOf3 h TI (.ref i1) (.ref i2) (.ref i3) ∧ (∃ x y u, IsTupOf3 h TO x y u) ∧ h.IsTupleIter i1 a i ∧ h.IsTupleIter i2 b i ∧ h.IsTupleIter i3 c i) where
  mem := by simp
  obj := fun i h st d hd => by
    obtain ⟨hz, hTI, ⟨x, y, u, hTO⟩, ⟨o1, e1, _, d1⟩, ⟨o2, e2, _, d2⟩, ⟨o3, e3, _, d3⟩⟩ := st
    have e' : d = z ∨ d = TI ∨ d = TO ∨ d = i1 ∨ d = i2 ∨ d = i3 := by simpa using hd
    rcases e' with q | q | q | q | q | q
    · rw [q]; exact ⟨_, hz, fun v q => nomatch q⟩
    · rw [q]; exact ⟨_, hTI, fun v q => nomatch q⟩
    · rw [q]; exact ⟨_, hTO, fun v q => nomatch q⟩
    · rw [q]; exact ⟨o1, e1, fun v q => by rw [d1] at q; cases q⟩
    · rw [q]; exact ⟨o2, e2, fun v q => by rw [d2] at q; cases q⟩
    · rw [q]; exact ⟨o3, e3, fun v q => by rw [d3] at q; cases q⟩
  keep := fun i h h' st k => by
    obtain ⟨hz, hTI, ⟨x, y, u, hTO⟩, h1, h2, h3⟩ := st
    exact ⟨k z (by simp) _ hz, k TI (by simp) _ hTI, ⟨x, y, u, k TO (by simp) _ hTO⟩, h1.at fun o q => k i1 (by simp) o q, h2.at fun o q => k i2 (by simp) o q, h3.at fun o q => k i3 (by simp) o q⟩
  item := by
    intro X hP hw hK hc i pins s σ H E I hf st hg
    subst hP hw hK
    obtain ⟨hz, hTI, ⟨x0, y0, u0, hTO⟩, h1, h2, h3⟩ := st
    obtain ⟨xs, ys, zs, x, y, u, hqx, hqy, hqz, hx, hy, hu⟩ := hg
    obtain ⟨its, rv, p, _⟩ := I.tuple hqx
    obtain ⟨its2, rv2, p2, _⟩ := I.tuple hqy
    obtain ⟨its3, rv3, p3, _⟩ := I.tuple hqz
    obtain ⟨v1, hv1, r1⟩ := rv.get hx
    obtain ⟨v2, hv2, r2⟩ := rv2.get hy
    obtain ⟨v3, hv3, r3⟩ := rv3.get hu
    have hzl : z < s.heap.objs.size := Heap.lt_size hz
    have hd : X.A.in1.handled = none := I.ok.hd hc
    have l1 : i < its.toArray.size := by
      have := (List.getElem?_eq_some_iff.mp hv1).1
      simpa using this
    have l2 : i < its2.toArray.size := by
      have := (List.getElem?_eq_some_iff.mp hv2).1
      simpa using this
    have l3 : i < its3.toArray.size := by
      have := (List.getElem?_eq_some_iff.mp hv3).1
      simpa using this
    refine wpAny_pyNext_zipD3_item (i := i) S (Draws.tuple hd i1 a na its.toArray) (Draws.tuple hd i2 b nb its2.toArray) (Draws.tuple hd i3 c nc its3.toArray) hz hTI hTO ⟨h1, isTup_is p⟩ ⟨h2, isTup_is p2⟩ ⟨h3, isTup_is p3⟩ l1 l2 l3 fun x1 x2 x3 h' tk y1 y2 y3 z' TO' h1' h2' h3' hT hsz hk => ?_
    have e1 : x1 = v1 := by
      have : its[i]? = some x1 := by simpa using y1
      rw [hv1] at this
      exact (Option.some.inj this).symm
    have e2 : x2 = v2 := by
      have : its2[i]? = some x2 := by simpa using y2
      rw [hv2] at this
      exact (Option.some.inj this).symm
    have e3 : x3 = v3 := by
      have : its3[i]? = some x3 := by simpa using y3
      rw [hv3] at this
      exact (Option.some.inj this).symm
    subst e1 e2 e3
    refine ⟨_, rfl, wpAny_letOwnedTupleGo_zip (s := { s with heap := h', toks := tk }) z' fun h'' z'' sb => ?_⟩
    have hT2 : h''.get? s.heap.objs.size = some { cls := .type "tuple", data := .seq #[x1, x2, x3] } := (sb.2 _ (Nat.ne_of_gt hzl)).trans hT
    have new : ObjOk X.prog X.w (upd H s.heap.objs.size (.tup [x, y, u])) h'' s.heap.objs.size (.tup [x, y, u]) :=
      ⟨by show 3 ≤ sizeLine; decide, [x1, x2, x3], .cons r1 (.cons r2 (.cons r3 .nil)), ⟨_, hT2, rfl, _, rfl⟩⟩
    have I1 : Inv X pins σ (upd H s.heap.objs.size (.tup [x, y, u])) { s with heap := h'', toks := tk } :=
      I.turnedNew (t' := tk) (ch := [z, TI, TO, i1, i2, i3]) (fun c o hb q => (sb.2 c (fun q' => hb (by simp [q']))).trans (hk c o (fun q' => hb (by simp [q'])) (fun q' => hb (by simp [q'])) (fun q' => hb (by simp [q'])) (fun q' => hb (by simp [q'])) (fun q' => hb (by simp [q'])) q)) hf (Nat.le_refl _) new
    refine ⟨.ref s.heap.objs.size, _, I1, rfl, ⟨_, x, y, u, rfl, I.hok.fresh (Nat.le_refl _), rfl, fun l hl => by rw [I.tuple_inj hl hqx]; exact hx, fun l hl => by rw [I.tuple_inj hl hqy]; exact hy, fun l hl => by rw [I.tuple_inj hl hqz]; exact hu⟩, ⟨z'', ?_, ⟨x1, x2, x3, ?_⟩, ?_, ?_, ?_⟩, fun c hcm => ?_⟩
    · exact (sb.2 _ S.TIz).trans (hk _ _ S.TIz S.TITO S.TIi1 S.TIi2 S.TIi3 hTI)
    · exact (sb.2 _ S.TOz).trans TO'
    · exact h1'.1.at fun o q => (sb.2 _ fun e => S.zf1 (by simp [e])).trans q
    · exact h2'.1.at fun o q => (sb.2 _ fun e => S.zf2 (by simp [e])).trans q
    · exact h3'.1.at fun o q => (sb.2 _ fun e => S.zf3 (by simp [e])).trans q
    · have hlt : c < s.heap.objs.size := by
        have e' : c = z ∨ c = TI ∨ c = TO ∨ c = i1 ∨ c = i2 ∨ c = i3 := by simpa using hcm
        rcases e' with q | q | q | q | q | q
        · rw [q]; exact hzl
        · rw [q]; exact Heap.lt_size hTI
        · rw [q]; exact Heap.lt_size hTO
        · rw [q]; obtain ⟨_, e1, _⟩ := h1; exact Heap.lt_size e1
        · rw [q]; obtain ⟨_, e2, _⟩ := h2; exact Heap.lt_size e2
        · rw [q]; obtain ⟨_, e3, _⟩ := h3; exact Heap.lt_size e3
      rw [upd_ne (Nat.ne_of_lt hlt)]
      exact (hf c hcm).1
  done := by
    intro X hP hw hK hc i pins s σ H E I hf st hg
    subst hP hw hK
    obtain ⟨hz, hTI, ⟨x0, y0, u0, hTO⟩, h1, h2, h3⟩ := st
    obtain ⟨xs, ys, zs, hqx, hqy, hqz, b1, b2, b3, hend⟩ := hg
    obtain ⟨its, rv, p, _⟩ := I.tuple hqx
    obtain ⟨its2, rv2, p2, _⟩ := I.tuple hqy
    obtain ⟨its3, rv3, p3, _⟩ := I.tuple hqz
    have l1 := rv.length
    have l2 := rv2.length
    have l3 := rv3.length
    have hd : X.A.in1.handled = none := I.ok.hd hc
    exact wpAny_pyNext_zipD3_end (i := i) S (Draws.tuple hd i1 a na its.toArray) (Draws.tuple hd i2 b nb its2.toArray) (Draws.tuple hd i3 c nc its3.toArray) hz hTI hTO ⟨h1, isTup_is p⟩ ⟨h2, isTup_is p2⟩ ⟨h3, isTup_is p3⟩ (by simp; omega) (by simp; omega) (by simp; omega) (by simp; omega) fun h' tk hk => ⟨rfl, I.turnedL (t' := tk) (ch := [z, TI, TO, i1, i2, i3]) (fun c o hb q =>
      hk c o (fun q' => hb (by simp [q'])) (fun q' => hb (by simp [q'])) (fun q' => hb (by simp [q'])) (fun q' => hb (by simp [q'])) (fun q' => hb (by simp [q'])) q) hf⟩
  self := fun A i s Q E st h => wpAny_pyIter_zip st.1 h
def iZipT3 (K : PySem.W.Frag) (ta : TA) : TI := fun σ H R => ta σ H fun vs H1 => ∃ a b c xs ys zs, vs = [.ref a, .ref b, .ref c] ∧ SqT K H1 a xs ∧ SqT K H1 b ys ∧ SqT K H1 c zs ∧ R (ItzT3 K a b c) H1
theorem pi_zipT3 {X : Cx} {e e2 e3 : Expr} {ta : TA} {p pos tpos : Pos} {elts : List Expr} {kk : Nat} (hg : Gl X "zip") (hm : X.mg "zip" = none) (ha : PA X [e, e2, e3] ta)
    (hs : starEach [e, e2, e3] X.env = (false, eval e X.env) :: starEach [e2, e3] X.env := by rfl) (hpl : (backTo pos (starEach [e2, e3] X.env)).any (·.1) = false := by rfl) :
    PI X (.Tuple elts kk tpos) (.Call (.Name "zip" p) [e, e2, e3] [] pos) (iZipT3 X.K ta) := by
  refine ⟨fun pins s σ H R I h => ?_⟩
  refine Call_ (ld_blt I hg hm PyProof.Rows.boot_zip (PyProof.Rows.callWith_type1 (thn (ha.run pos pins s σ H _ I h) fun us s1 ⟨vs, H1, I1, r1, q1⟩ => ?_) hs hpl))
  obtain ⟨a, b, c, xs, ys, zs, ex, hqx, hqy, hqz, q⟩ := q1
  subst ex
  cases r1 with
  | cons r rr =>
    cases rr with
    | cons r' rr =>
      cases rr with
      | cons r'' rr =>
        cases rr
        cases r
        cases r'
        cases r''
        obtain ⟨its, rv, p1, _⟩ := I1.tuple hqx
        obtain ⟨its2, rv2, p2, _⟩ := I1.tuple hqy
        obtain ⟨its3, rv3, p3, _⟩ := I1.tuple hqz
        obtain ⟨o1, ho1, _⟩ := id p1
        obtain ⟨o2, ho2, _⟩ := id p2
        obtain ⟨o3, ho3, _⟩ := id p3
        have la := Heap.lt_size ho1
        have lb := Heap.lt_size ho2
        have lc := Heap.lt_size ho3
        refine zip_begins3 (begins_tuple a its.toArray) (begins_tuple b its2.toArray) (begins_tuple c its3.toArray) (isTup_is p1) (isTup_is p2) (isTup_is p3) fun h' hz hTI hTO h1 h2 h3 hsz hk => wpAny_pyIter_zip hz ?_
        have I2 : Inv X pins σ H1 { s1 with heap := h' } := I1.kept (t' := s1.toks) hk
        refine ⟨s1.heap.objs.size + 5, [s1.heap.objs.size + 5, s1.heap.objs.size + 3, s1.heap.objs.size + 4, s1.heap.objs.size, s1.heap.objs.size + 1, s1.heap.objs.size + 2], _, _, H1, rfl, I2,
          turn_zipT3 (zip_sep3 (N := s1.heap.objs.size) (fp1 := [a]) (fp2 := [b]) (fp3 := [c]) (by simpa using la) (by simpa using lb) (by simpa using lc)) (Nat.ne_of_lt la) (Nat.ne_of_lt (Nat.lt_of_lt_of_le lb (Nat.le_add_right _ _))) (Nat.ne_of_lt (Nat.lt_of_lt_of_le lc (Nat.le_add_right _ _))), ⟨hz, hTI, ⟨_, _, _, hTO⟩, ⟨_, h1, rfl, rfl⟩, ⟨_, h2, rfl, rfl⟩, ⟨_, h3, rfl, rfl⟩⟩, fun c hcm => ?_, q⟩
        have e' : c = s1.heap.objs.size + 5 ∨ c = s1.heap.objs.size + 3 ∨ c = s1.heap.objs.size + 4 ∨ c = s1.heap.objs.size ∨ c = s1.heap.objs.size + 1 ∨ c = s1.heap.objs.size + 2 := by simpa using hcm
        have hle : s1.heap.objs.size ≤ c := by
          rcases e' with z | z | z | z | z | z
          · rw [z]; exact Nat.le_add_right _ _
          · rw [z]; exact Nat.le_add_right _ _
          · rw [z]; exact Nat.le_add_right _ _
          · rw [z]; exact Nat.le_refl _
          · rw [z]; exact Nat.le_add_right _ _
          · rw [z]; exact Nat.le_add_right _ _
        exact I1.fpOk hle (I1.hok.fresh hle)
theorem walk_zipT3 {K : PySem.W.Frag} {a b c : Addr} {xs ys zs : List V} (h1 : xs.length = ys.length) (h2 : ys.length = zs.length) : Walk (ItzT3 K a b c) xs.length (fun H => SqT K H a xs ∧ SqT K H b ys ∧ SqT K H c zs)
    (fun i H v H' => ∃ T x y z, v = .ref T ∧ H T = none ∧ H' = upd H T (.tup [x, y, z]) ∧ xs[i]? = some x ∧ ys[i]? = some y ∧ zs[i]? = some z) :=
  ⟨fun i _ hi ⟨q, q2, q3⟩ => ⟨xs, ys, zs, xs[i], ys[i], zs[i], q, q2, q3, by simp [hi], by simp [hi], by simp [hi]⟩, fun _ ⟨q, q2, q3⟩ => ⟨xs, ys, zs, q, q2, q3, Nat.le_refl _, by omega, by omega, .inl rfl⟩,
    fun _ _ _ _ _ ⟨q, q2, q3⟩ ⟨T, x, y, z, e, h, e2, f1, f2, f3⟩ => ⟨T, x, y, z, e, h, e2, f1 xs q, f2 ys q2, f3 zs q3⟩⟩
theorem walk_zipT {K : PySem.W.Frag} {a b : Addr} {xs ys : List V} : Walk (RZ.ItzT K a b) (Nat.min xs.length ys.length) (fun H => SqT K H a xs ∧ SqT K H b ys)
    (fun i H v H' => ∃ T x y, v = .ref T ∧ H T = none ∧ H' = upd H T (.tup [x, y]) ∧ xs[i]? = some x ∧ ys[i]? = some y) :=
  ⟨fun i _ hi ⟨q, q2⟩ => ⟨xs, ys, xs[i]'(by have : Nat.min xs.length ys.length ≤ xs.length := Nat.min_le_left _ _; omega), ys[i]'(by have : Nat.min xs.length ys.length ≤ ys.length := Nat.min_le_right _ _; omega), q, q2, List.getElem?_eq_getElem _, List.getElem?_eq_getElem _⟩,
    fun _ ⟨q, q2⟩ => ⟨xs, ys, q, q2, by
      show xs.length ≤ Nat.min xs.length ys.length ∨ ys.length ≤ Nat.min xs.length ys.length
      have : Nat.min xs.length ys.length = xs.length ∨ Nat.min xs.length ys.length = ys.length := by
        rcases Nat.le_total xs.length ys.length with h | h
        · exact .inl (Nat.min_eq_left h)
        · exact .inr (Nat.min_eq_right h)
      omega⟩,
    fun _ _ _ _ _ ⟨q, q2⟩ ⟨T, x, y, e, h, e2, f1, f2⟩ => ⟨T, x, y, e, h, e2, f1 xs q, f2 ys q2⟩⟩
section
variable {G : Gx} {X : Cx} {lv : Nat} {r : DEnv} {e a b c tg : Expr} {es : List Expr} {pos p p2 kp : Pos}
def zip3 {α β γ : Type} (xs : List α) (ys : List β) (zs : List γ) : List (α × β × γ) := xs.zip (ys.zip zs)
theorem di_zipT3 [o : On G X lv] {ds ds2 ds3 : List PyData} {elts : List Expr} {kk : Nat} {tpos : Pos} (h : DE G X a r (.dat (.tuple ds))) (h' : DE G X b r (.dat (.tuple ds2))) (h'' : DE G X c r (.dat (.tuple ds3))) (him : ims ds = true) (him2 : ims ds2 = true) (him3 : ims ds3 = true) (hl : ds.length = ds2.length) (hl2 : ds2.length = ds3.length) (hg : Gl X "zip" := by rfl)
    (hs : starEach [a, b, c] X.env = (false, eval a X.env) :: starEach [b, c] X.env := by rfl) (hs2 : starEach [b, c] X.env = (false, eval b X.env) :: starEach [c] X.env := by rfl)
    (hs3 : starEach [c] X.env = [(false, eval c X.env)] := by rfl) (hpl : (backTo pos (starEach [b, c] X.env)).any (·.1) = false := by rfl) :
    DI G X (.Tuple elts kk tpos) (.Call (.Name "zip" p) [a, b, c] [] pos) r ((zip3 ds ds2 ds3).map fun q => XD.dat (.tuple [q.1, q.2.1, q.2.2])) := by
  obtain ⟨⟨CT, CB, rfl⟩, _, _, _, gl⟩ := o
  have ha : PA X [a, b, c] (fun σ H Q => ∃ O, Fit ⟨X.prog, X.w, X.K, X.mg, X.base, CT, CB⟩ O H σ r ∧ ∀ v u t H', Gr H H' → Dp X.K (hid O H') v (.tuple ds) → Dp X.K (hid O H') u (.tuple ds2) → Dp X.K (hid O H') t (.tuple ds3) → Q [v, u, t] H') :=
    liftA (pa_cons h (pa_cons h' (pa_cons h'' pa_nil hs3) hs2) hs) fun σ H Q ⟨O, f, q⟩ => ⟨O, f, fun v H1 g1 r1 => ⟨O, f.gr g1, fun u H2 g2 r2 => ⟨O, (f.gr g1).gr g2, fun t H3 g3 r3 => q v u t H3 ((g1.trans g2).trans g3) (dp_gr (hid_gr (g2.trans g3)) _ _ r1) (dp_gr (hid_gr g3) _ _ r2) r3⟩⟩⟩
  refine liftI (pi_zipT3 hg gl.zip ha hs hpl) fun σ H R ⟨O, f, q⟩ => ⟨O, f, fun v u t H1 g1 r1 r2 r3 => ?_⟩
  obtain ⟨l, xs, rfl, h1, h2⟩ := dp_tup r1
  obtain ⟨l2, ys, rfl, h3, h4⟩ := dp_tup r2
  obtain ⟨l3, zs, rfl, h5, h6⟩ := dp_tup r3
  have e1 := dps_len h2
  have e2 := dps_len h4
  have e3 := dps_len h6
  refine ⟨l, l2, l3, xs, ys, zs, rfl, (hid_le O H1).sqT h1, (hid_le O H1).sqT h3, (hid_le O H1).sqT h5, q _ H1 g1 ?_⟩
  have el : ((zip3 ds ds2 ds3).map fun q => XD.dat (.tuple [q.1, q.2.1, q.2.2])).length = xs.length := by
    unfold zip3
    rw [List.length_map, List.length_zip, List.length_zip]
    omega
  rw [el]
  refine (walk_zipT3 (xs := xs) (ys := ys) (zs := zs) (by omega) (by omega)).mono (fun H2 g2 => ⟨g2.sqT h1, g2.sqT h3, g2.sqT h5⟩) fun i H2 v H3 hi g2 y => ?_
  obtain ⟨T, x, y, z, rfl, hT, rfl, hx, hy, hz⟩ := y
  obtain ⟨d, hd, hp⟩ := dps_get h2 hx
  obtain ⟨d2, hd2, hp2⟩ := dps_get h4 hy
  obtain ⟨d3, hd3, hp3⟩ := dps_get h6 hz
  have gT := g2.trans (Gr.new (o := .tup [x, y, z]) hT)
  refine ⟨Gr.new hT, .dat (.tuple [d, d2, d3]), ?_, .inr ⟨?_, .tup (.of upd_same) (.cons (dp_gr gT d x hp) (.cons (dp_gr gT d2 y hp2) (dps_one (dp_gr gT d3 z hp3))))⟩⟩
  · unfold zip3
    rw [List.getElem?_map, List.getElem?_zip_eq_some (z := (d, d2, d3)) |>.mpr ⟨hd, List.getElem?_zip_eq_some (z := (d2, d3)) |>.mpr ⟨hd2, hd3⟩⟩]
    rfl
  · have e2 : im d = true := ims_mem him (List.mem_of_getElem? hd)
    have e3 : im d2 = true := ims_mem him2 (List.mem_of_getElem? hd2)
    have e4 : im d3 = true := ims_mem him3 (List.mem_of_getElem? hd3)
    show im (.tuple [d, d2, d3]) = true
    simp only [im, ims, e2, e3, e4, Bool.and_self]
/-- zip of two tuples -/
theorem di_zipT [o : On G X lv] {ds ds2 : List PyData} {elts : List Expr} {kk : Nat} {tpos : Pos} (h : DE G X a r (.dat (.tuple ds))) (h' : DE G X b r (.dat (.tuple ds2))) (him : ims ds = true) (him2 : ims ds2 = true) (hg : Gl X "zip" := by rfl) (hs : starEach [a, b] X.env = (false, eval a X.env) :: starEach [b] X.env := by rfl)
    (hs2 : starEach [b] X.env = [(false, eval b X.env)] := by rfl) (hpl : (backTo pos (starEach [b] X.env)).any (·.1) = false := by rfl) :
    DI G X (.Tuple elts kk tpos) (.Call (.Name "zip" p) [a, b] [] pos) r ((ds.zip ds2).map fun q => XD.dat (.tuple [q.1, q.2])) := by
  obtain ⟨⟨CT, CB, rfl⟩, _, _, _, gl⟩ := o
  have ha : PA X [a, b] (fun σ H Q => ∃ O, Fit ⟨X.prog, X.w, X.K, X.mg, X.base, CT, CB⟩ O H σ r ∧ ∀ v u H', Gr H H' → Dp X.K (hid O H') v (.tuple ds) → Dp X.K (hid O H') u (.tuple ds2) → Q [v, u] H') :=
    liftA (pa_cons h (pa_cons h' pa_nil hs2) hs) fun σ H Q ⟨O, f, q⟩ => ⟨O, f, fun v H1 g1 r1 => ⟨O, f.gr g1, fun u H2 g2 r2 => q v u H2 (g1.trans g2) (dp_gr (hid_gr g2) _ _ r1) r2⟩⟩
  refine liftI (RZ.pi_zipA hg gl.zip ha hs hpl) fun σ H R ⟨O, f, q⟩ => ⟨O, f, fun v u H1 g1 r1 r2 => ?_⟩
  obtain ⟨l, xs, rfl, h1, h2⟩ := dp_tup r1
  obtain ⟨l2, ys, rfl, h3, h4⟩ := dp_tup r2
  refine ⟨l, l2, xs, ys, rfl, .inr ⟨(hid_le O H1).sqT h1, (hid_le O H1).sqT h3, q _ H1 g1 ?_⟩⟩
  rw [List.length_map, List.length_zip, ← dps_len h2, ← dps_len h4]
  refine (walk_zipT (xs := xs) (ys := ys)).mono (fun H2 g2 => ⟨g2.sqT h1, g2.sqT h3⟩) fun i H2 v H3 hi g2 y => ?_
  obtain ⟨T, x, z, rfl, hT, rfl, hx, hz⟩ := y
  obtain ⟨d, hd, hp⟩ := dps_get h2 hx
  obtain ⟨d2, hd2, hp2⟩ := dps_get h4 hz
  refine ⟨Gr.new hT, .dat (.tuple [d, d2]), ?_, .inr ⟨?_, .tup (.of upd_same) (.cons (dp_gr (g2.trans (Gr.new hT)) d x hp) (dps_one (dp_gr (g2.trans (Gr.new hT)) d2 z hp2)))⟩⟩
  · rw [List.getElem?_map, List.getElem?_zip_eq_some (z := (d, d2)) |>.mpr ⟨hd, hd2⟩]
    rfl
  · have e2 : im d = true := ims_mem him (List.mem_of_getElem? hd)
    have e3 : im d2 = true := ims_mem him2 (List.mem_of_getElem? hd2)
    show im (.tuple [d, d2]) = true
    simp only [im, ims, e2, e3, Bool.and_self]
end
end RC

/-! RcN: list(zip(a, b)) of two lists. -/
namespace RC
open PySem PySem.Spec PyProof.Rows L2
open PySem.W (Datum DatumOrd Tup T3 Holds HoldAll minOf maxOf EachIs)

theorem zip_no_len : typeLookup (.type "zip") "__len__" = pure none := by rw [typeLookup_type, builtinLookup_eq_fast]; kernel_rfl
theorem zip_no_hint : typeLookup (.type "zip") "__length_hint__" = pure none := by rw [typeLookup_type, builtinLookup_eq_fast]; kernel_rfl

section
variable {X : Cx} {pins : List (Addr × Obj)} {σ : L2.St} {z TI TO i1 i2 a b S : Addr} {xs ys : List V}
/-- the zip at turn i, its last tuple out or not -/
def ZSt (h : Heap) (z TI TO i1 i2 a b S : Addr) (i : Nat) : Prop :=
  IsPair h TI (.ref i1) (.ref i2) ∧ h.IsListIter i1 a i ∧ h.IsListIter i2 b i ∧ ((IsZip h z TI TO .none ∧ ∃ u v, IsPair h TO u v) ∨ ∃ T f oT, IsZipHeld h z TI TO T f ∧ (∃ oO, h.get? TO = some oO) ∧ h.get? T = some oT ∧ T ≠ z ∧ T ≠ TO ∧ T ≠ i1 ∧ T ≠ i2 ∧ T ≠ S)
theorem ZSt.keep {h h' : Heap} {i : Nat} (st : ZSt h z TI TO i1 i2 a b S i) (nz : S ≠ z) (nTI : S ≠ TI) (nTO : S ≠ TO) (n1 : S ≠ i1) (n2 : S ≠ i2) (k : ∀ c o, c ≠ S → h.get? c = some o → h'.get? c = some o) : ZSt h' z TI TO i1 i2 a b S i := by
  obtain ⟨hTI, h1, h2, hz⟩ := st
  refine ⟨k _ _ (Ne.symm nTI) hTI, h1.at fun o e => k _ o (Ne.symm n1) e, h2.at fun o e => k _ o (Ne.symm n2) e, ?_⟩
  rcases hz with ⟨hz, u, v, hTO⟩ | ⟨T, f, oT, hz, ⟨oO, hO⟩, hT, r1, r2, r3, r4, r5⟩
  · exact .inl ⟨k _ _ (Ne.symm nz) hz, u, v, k _ _ (Ne.symm nTO) hTO⟩
  · exact .inr ⟨T, f, oT, k _ _ (Ne.symm nz) hz, ⟨oO, k _ _ (Ne.symm nTO) hO⟩, k _ _ r5 hT, r1, r2, r3, r4, r5⟩
/-- the pairs so far -/
def Pairs2 (H : Hp) (xs ys : List V) (i : Nat) (acc : List V) : Prop := acc.length = i ∧ ∀ (j : Nat) (u : V), acc[j]? = some u → ∃ (T : Addr) (x y : V), u = V.ref T ∧ H T = some (.tup [x, y]) ∧ xs[j]? = some x ∧ ys[j]? = some y
theorem list_zip_loop {A : Around} {R : Result → Shared → Prop} {H0 : Hp} (hh : A.handled = none) (D : ZipApart z TI TO i1 i2 a b) (nz : S ≠ z) (nTI : S ≠ TI) (nTO : S ≠ TO) (n1 : S ≠ i1) (n2 : S ≠ i2) (na : a ≠ S) (nb : b ≠ S) (hn : min xs.length ys.length < sizeLine)
    (hR : ∀ s' H' acc, Inv X pins σ H' s' → (∀ c o, c ≠ S → H0 c = some o → H' c = some o) → H' S = some (.lst acc) → Pairs2 H' xs ys (min xs.length ys.length) acc → R (.ok (.ret .none)) s') :
    ∀ (k i : Nat) (s : Shared) (H : Hp) (acc : List V), min xs.length ys.length - i = k → i ≤ min xs.length ys.length → Inv X pins σ H s → (∀ c ∈ [z, TI, TO, i1, i2], FpOk X pins H c) → ZSt s.heap z TI TO i1 i2 a b S i → (∀ c o, c ≠ S → H0 c = some o → H c = some o) → H S = some (.lst acc) → SqL X.K H a xs → SqL X.K H b ys → Pairs2 H xs ys i acc →
      codeAny (model X.prog X.w) A (.builtin "list.extend.loop" ⟨[.ref S, .ref z, .none], []⟩) R s := by
  intro k
  induction k with
  | zero =>
    intro i s H acc hk hi I hf st h0 hS hqx hqy hp
    have hin : i = min xs.length ys.length := by omega
    obtain ⟨its, rv, p, _⟩ := I.list hqx
    obtain ⟨its2, rv2, p2, _⟩ := I.list hqy
    have l1 := rv.length
    have l2 := rv2.length
    have hend : its.toArray[i]? = none ∨ its2.toArray[i]? = none := by
      rcases Nat.le_total xs.length ys.length with h | h
      · exact .inl (by simp; omega)
      · exact .inr (by simp; omega)
    refine codeAny_builtin PySem.F.entry_extend_loop ?_
    rw [Around.under_plainId PySem.F.plain_extend_loop _]
    show wpAny _ A.in1 (pyNext (.ref z) >>= _) _ _ _
    obtain ⟨hTI, h1, h2, hz⟩ := st
    have fin : ∀ h', (∀ c o, c ≠ z → c ≠ TO → c ≠ i1 → c ≠ i2 → s.heap.get? c = some o → h'.get? c = some o) → R (.ok (.ret .none)) { s with heap := h' } := fun h' hk => by
      refine hR _ H acc (I.turnedL (t' := s.toks) (ch := [z, TI, TO, i1, i2]) (fun c o hb q => hk c o (fun q' => hb (by simp [q'])) (fun q' => hb (by simp [q'])) (fun q' => hb (by simp [q'])) (fun q' => hb (by simp [q'])) q) hf) h0 hS ?_
      rw [← hin]
      exact hp
    rcases hz with ⟨hz, u, v, hTO⟩ | ⟨T, f, oT, hz, ⟨oO, hO⟩, hT, r1, r2, r3, r4, r5⟩
    · exact wpAny_bind (wpAny_pyNext_zip_end (A := A.in1) hh D hz hTI hTO h1 h2 p.isList p2.isList hend fun h' hk => wpAny_pure (fin h' hk))
    · exact wpAny_bind (wpAny_pyNext_zip_end_held (A := A.in1) hh D hz hT hTI h1 h2 p.isList p2.isList hend fun h' hk => wpAny_pure (fin h' fun c o c1 _ c3 c4 e => hk c o c1 c3 c4 e))
  | succ k ih =>
    intro i s H acc hk hi I hf st h0 hS hqx hqy hp
    have hlt : i < min xs.length ys.length := by omega
    have hlx : i < xs.length := by omega
    have hly : i < ys.length := by omega
    obtain ⟨its, rv, p, _⟩ := I.list hqx
    obtain ⟨its2, rv2, p2, _⟩ := I.list hqy
    have hx : xs[i]? = some xs[i] := List.getElem?_eq_getElem hlx
    have hy : ys[i]? = some ys[i] := List.getElem?_eq_getElem hly
    generalize ex : xs[i] = x at hx
    generalize ey : ys[i] = y at hy
    obtain ⟨v1, hv1, q1⟩ := rv.get hx
    obtain ⟨v2, hv2, q2⟩ := rv2.get hy
    refine codeAny_builtin PySem.F.entry_extend_loop ?_
    rw [Around.under_plainId PySem.F.plain_extend_loop _]
    show wpAny _ A.in1 (pyNext (.ref z) >>= _) _ _ _
    obtain ⟨hTI, h1, h2, hz⟩ := st
    have hzl : z < s.heap.objs.size := by
      rcases hz with ⟨hz, _⟩ | ⟨T, f, oT, hz, _⟩
      · exact Heap.lt_size hz
      · exact Heap.lt_size hz
    have hTil : TI < s.heap.objs.size := Heap.lt_size hTI
    have h1l : i1 < s.heap.objs.size := by obtain ⟨_, e, _⟩ := h1; exact Heap.lt_size e
    have h2l : i2 < s.heap.objs.size := by obtain ⟨_, e, _⟩ := h2; exact Heap.lt_size e
    obtain ⟨hzS, itS, nS, riS, eS⟩ := I.hok S _ hS
    have hSl : S < s.heap.objs.size := Heap.lt_size eS
    -- the turn behind next
    have go : ∀ h', ZSt h' z TI TO i1 i2 a b S (i + 1) → IsPair h' s.heap.objs.size v1 v2 → (∀ c o, c ≠ z → c ≠ TO → c ≠ i1 → c ≠ i2 → s.heap.get? c = some o → h'.get? c = some o) → (TO < s.heap.objs.size) →
        wpAny (model X.prog X.w) A.in1 (updateSeq S (·.push (Value.ref s.heap.objs.size)) >>= fun _ => again (.builtin "list.extend.loop" ⟨[.ref S, .ref z, .none], []⟩)) (fun fin s' => match fin with | .done f => R (.ok f) s' | .again c' => c'.quiet = true ∧ codeAny (model X.prog X.w) A c' R s') (fun e s' => R (.error e) s') { s with heap := h' } := by
      intro h' st' hT hk hTOl
      have new : ObjOk X.prog X.w (upd H s.heap.objs.size (.tup [x, y])) h' s.heap.objs.size (.tup [x, y]) :=
        ⟨by show 2 ≤ sizeLine; decide, [v1, v2], .cons q1 (.cons q2 .nil), ⟨_, hT, rfl, _, rfl⟩⟩
      have I1 : Inv X pins σ (upd H s.heap.objs.size (.tup [x, y])) { s with heap := h' } :=
        I.turnedNew (t' := s.toks) (ch := [z, TI, TO, i1, i2]) (fun c o hb q => hk c o (fun q' => hb (by simp [q'])) (fun q' => hb (by simp [q'])) (fun q' => hb (by simp [q'])) (fun q' => hb (by simp [q'])) q) hf (Nat.le_refl _) new
      have hTn : H s.heap.objs.size = none := I.hok.fresh (Nat.le_refl _)
      have g1 : Gr H (upd H s.heap.objs.size (.tup [x, y])) := Gr.new hTn
      have hS1 := g1 _ _ hS
      have eS1 := hk S _ nz nTO n1 n2 eS
      have lacc : acc.length = i := hp.1
      have lits : itS.toArray.size = i := by
        have := riS.length
        simp
        omega
      refine wpAny_bind (wpAny_updateSeq eS1 rfl (wpAny_pure ⟨plainId_quiet PySem.F.plain_extend_loop _, ?_⟩) (by rw [lits]; omega) (by show (itS.toArray.push _).size ≤ sizeLine + 1; rw [Array.size_push, lits]; omega))
      have kS : ∀ c o, c ≠ S → h'.get? c = some o → (h'.update S (Obj.mapSeq (·.push (Value.ref s.heap.objs.size)))).get? c = some o := fun c o hc e => (Heap.get?_update_other _ _ (Ne.symm hc)).trans e
      have eS2 := Heap.get?_update_self (Obj.mapSeq (·.push (Value.ref s.heap.objs.size))) eS1 rfl
      have I2 : Inv X pins σ (upd (upd H s.heap.objs.size (.tup [x, y])) S (.lst (acc ++ [.ref s.heap.objs.size]))) { s with heap := h'.update S (Obj.mapSeq (·.push (Value.ref s.heap.objs.size))) } :=
        I1.write (t' := s.toks) (by rw [hS1]; trivial) (.inl rfl) kS ⟨_, eS2⟩ ⟨by rw [List.length_append]; show acc.length + 1 ≤ _; omega, itS ++ [Value.ref s.heap.objs.size], nS + 1, riS.append (.cons (show RelV (V.ref s.heap.objs.size) (Value.ref s.heap.objs.size) from rfl) .nil), by rw [eS2]; simp [Obj.mapSeq]⟩
      have up2 : ∀ c o, c ≠ S → H c = some o → upd (upd H s.heap.objs.size (.tup [x, y])) S (.lst (acc ++ [.ref s.heap.objs.size])) c = some o := fun c o hc e => by
        rw [upd_ne hc]
        exact g1 c o e
      refine ih (i + 1) _ _ (acc ++ [.ref s.heap.objs.size]) (by omega) hlt I2 (fun c hc => ?_) (st'.keep nz nTI nTO n1 n2 kS) (fun c o hc e => up2 c o hc (h0 c o hc e)) upd_same ?_ ?_ ⟨by rw [List.length_append]; show acc.length + 1 = _; omega, fun j u hj => ?_⟩
      · obtain ⟨f0, f1⟩ := hf c hc
        have e' : c = z ∨ c = TI ∨ c = TO ∨ c = i1 ∨ c = i2 := by simpa using hc
        have cl : c ≠ S ∧ c < s.heap.objs.size := by
          rcases e' with q | q | q | q | q
          · rw [q]; exact ⟨Ne.symm nz, hzl⟩
          · rw [q]; exact ⟨Ne.symm nTI, hTil⟩
          · rw [q]; exact ⟨Ne.symm nTO, hTOl⟩
          · rw [q]; exact ⟨Ne.symm n1, h1l⟩
          · rw [q]; exact ⟨Ne.symm n2, h2l⟩
        exact ⟨by rw [upd_ne cl.1, upd_ne (Nat.ne_of_lt cl.2)]; exact f0, f1⟩
      · rcases hqx with q | q
        · rcases q with q | ⟨ob, q⟩
          · exact .inl (.inl (up2 _ _ na q))
          · exact .inl (.inr ⟨ob, up2 _ _ na q⟩)
        · exact .inr q
      · rcases hqy with q | q
        · rcases q with q | ⟨ob, q⟩
          · exact .inl (.inl (up2 _ _ nb q))
          · exact .inl (.inr ⟨ob, up2 _ _ nb q⟩)
        · exact .inr q
      · rcases Nat.lt_or_ge j acc.length with hj' | hj'
        · rw [List.getElem?_append_left hj'] at hj
          obtain ⟨T, x', y', rfl, hT', e1, e2⟩ := hp.2 j u hj
          have nT : T ≠ S := fun q => by rw [q, hS] at hT'; cases hT'
          exact ⟨T, x', y', rfl, up2 _ _ nT hT', e1, e2⟩
        · rw [List.getElem?_append_right hj'] at hj
          have hj0 : j = acc.length := by
            have := (List.getElem?_eq_some_iff.mp hj).1
            simp at this
            omega
          subst hj0
          simp at hj
          subst hj
          exact ⟨_, x, y, rfl, by rw [upd_ne (Nat.ne_of_gt hSl)]; exact upd_same, by rw [lacc]; exact hx, by rw [lacc]; exact hy⟩
    rcases hz with ⟨hz, u, v, hTO⟩ | ⟨T, f, oT, hz, ⟨oO, hO⟩, hT, r1, r2, r3, r4, r5⟩
    · refine wpAny_bind (wpAny_pyNext_zip_item (A := A.in1) D hz hTI hTO h1 h2 p.isList p2.isList (x := v1) (y := v2) (by simpa using hv1) (by simpa using hv2) fun h' z' TO' h1' h2' hT hsz hk => ?_)
      exact go h' ⟨hk _ _ D.TIz D.TITO D.TIi1 D.TIi2 hTI, h1', h2',   .inr ⟨s.heap.objs.size, false, _, z', ⟨_, TO'⟩, hT, Nat.ne_of_gt hzl, Nat.ne_of_gt (Heap.lt_size hTO), Nat.ne_of_gt h1l, Nat.ne_of_gt h2l, Nat.ne_of_gt hSl⟩⟩ hT hk (Heap.lt_size hTO)
    · refine wpAny_bind (wpAny_pyNext_zip_item_held (A := A.in1) D hz hT hTI h1 h2 p.isList p2.isList (x := v1) (y := v2) (by simpa using hv1) (by simpa using hv2) fun h' z' h1' h2' hT' hsz hk => ?_)
      have nTO' : TO ≠ z ∧ TO ≠ i1 ∧ TO ≠ i2 := ⟨D.TOz, D.TOi1, D.TOi2⟩
      exact go h' ⟨hk _ _ D.TIz D.TIi1 D.TIi2 hTI, h1', h2', .inr ⟨T, true, oT, z', ⟨oO, hk _ _ nTO'.1 nTO'.2.1 nTO'.2.2 hO⟩, hk _ _ r1 r3 r4 hT, r1, r2, r3, r4, r5⟩⟩ hT' (fun c o c1 _ c3 c4 e => hk c o c1 c3 c4 e) (Heap.lt_size hO)

/-- list(z), z a new zip -/
theorem call_list_zip {pins : List (Addr × Obj)} {s : Shared} {H : Hp} {Q : Value → Shared → Prop} {E : Value → Shared → Prop} (hh : X.A.handled = none) (I : Inv X pins σ H s) (hf : ∀ c ∈ [z, TI, TO, i1, i2], FpOk X pins H c) (D : ZipApart z TI TO i1 i2 a b)
    (hz : IsZip s.heap z TI TO .none) (hTI : IsPair s.heap TI (.ref i1) (.ref i2)) (hTO : ∃ u v, IsPair s.heap TO u v) (h1 : s.heap.IsListIter i1 a 0) (h2 : s.heap.IsListIter i2 b 0) (hqx : SqL X.K H a xs) (hqy : SqL X.K H b ys) (hn : min xs.length ys.length < sizeLine)
    (hQ : ∀ s' H' acc, Inv X pins σ H' s' → Gr H H' → H s.heap.objs.size = none → H' s.heap.objs.size = some (.lst acc) → Pairs2 H' xs ys (min xs.length ys.length) acc → Q (.ref s.heap.objs.size) s') :
    wpAny (model X.prog X.w) X.A (call (.type "list") [.ref z]) Q E s := by
  obtain ⟨u, v, hTO⟩ := hTO
  have hzl : z < s.heap.objs.size := Heap.lt_size hz
  have hSz : s.heap.objs.size ≠ z := Nat.ne_of_gt hzl
  refine callType_codes (Q₁ := fun obj s₁ => obj = .ref s.heap.objs.size ∧ s₁ = { s with heap := s.heap.push { cls := .type "list", data := .seq #[] } }) PySem.F.called_list (PySem.F.typeCall_list_1 _) PySem.F.entry_list_init
    (code_list_new _ ⟨rfl, rfl⟩) fun obj s₁ h₁ => ?_
  obtain ⟨rfl, rfl⟩ := h₁
  have hS : (s.heap.push { cls := .type "list", data := .seq #[] }).get? s.heap.objs.size = some { cls := .type "list", data := .seq #[] } := Heap.get?_push_size _ rfl
  refine ⟨⟨_, hS, rfl⟩, PySem.F.args_list_init_2 _ _, ?_⟩
  show wpAny _ X.A.in1.in1 (do let old ← Builtin.List.listItems (.ref s.heap.objs.size); Builtin.List.listUpdate (.ref s.heap.objs.size) (fun _ => #[]); letGo old.toList.reverse; Builtin.List.listExtendWith (.ref s.heap.objs.size) (.ref z) .none) _ _ _
  refine wpAny_bind ?_
  unfold Builtin.List.listItems
  refine wpAny_bind (wpAny_seqItems hS rfl (wpAny_pure ?_))
  show wpAny _ X.A.in1.in1 (updateSeq s.heap.objs.size (fun _ => #[]) >>= fun _ => letGo (#[] : Array Value).toList.reverse >>= fun _ => Builtin.List.listExtendWith (.ref s.heap.objs.size) (.ref z) .none) _ _ _
  refine wpAny_bind (wpAny_updateSeq hS rfl ?_)
  have hS2 := Heap.get?_update_self (Obj.mapSeq (fun _ => (#[] : Array Value))) hS rfl
  refine wpAny_bind (wpAny_letGo ?_)
  unfold Builtin.List.listExtendWith
  have up : ∀ (h : Heap) (f : Obj → Obj), (∀ b o, s.heap.get? b = some o → h.get? b = some o) → ∀ b o, s.heap.get? b = some o → (h.update s.heap.objs.size f).get? b = some o := fun h f q b o e =>
    (Heap.get?_update_other _ _ (Ne.symm (Nat.ne_of_lt (Heap.lt_size e)))).trans (q b o e)
  have k1 : ∀ b o, s.heap.get? b = some o → (s.heap.push { cls := .type "list", data := .seq #[] }).get? b = some o := fun b o e => Heap.get?_push_of_some _ e
  have k2 := up _ (Obj.mapSeq (fun _ => (#[] : Array Value))) k1
  have ty : ∀ {h : Heap}, (∀ b o, s.heap.get? b = some o → h.get? b = some o) → Shared.TypeIs { s with heap := h } (.ref z) "zip" := fun {h} q => ⟨_, q _ _ hz, rfl⟩
  refine wpAny_bind (wpAny_typeOf (ty k2) ?_)
  have e1 : Builtin.List.listSameRef (.ref s.heap.objs.size) (.ref z) = false := by simp [Builtin.List.listSameRef, hSz]
  have e2 : (Value.type "zip" == Value.type "list") = false := by decide
  have e3 : (Value.type "zip" == Value.type "tuple") = false := by decide
  simp only [e1, e2, e3, Bool.or_false, Bool.false_eq_true, if_false]
  refine wpAny_bind (wpAny_pyIter_zip (s := { s with heap := _ }) (k2 _ _ hz) ?_)
  refine wpAny_bind (wpAny_holding ?_)
  unfold Builtin.List.listLengthHint
  refine wpAny_bind (wpAny_specialOf (ty k2) zip_no_len ?_)
  show wpAny _ X.A.in1.in1 (specialOf (Value.ref z) (Str.ofString "__length_hint__") >>= _) _ _ _
  refine wpAny_bind (wpAny_specialOf (ty k2) zip_no_hint ?_)
  refine wpAny_pure ?_
  show wpAny _ X.A.in1.in1 (rule "list.extend.makes-room" >>= fun _ => Builtin.List.listTouch (.ref s.heap.objs.size) >>= fun _ =>
    again (.builtin "list.extend.loop" ⟨[.ref s.heap.objs.size, .ref z, .none], []⟩)) _ _ _
  refine wpAny_bind (wpAny_rule ?_)
  refine wpAny_bind ?_
  show wpAny _ X.A.in1.in1 (updateSeq s.heap.objs.size (·.push .none) >>= fun _ => updateSeq s.heap.objs.size (·.pop)) _ _ _
  refine wpAny_bind (wpAny_updateSeq hS2 rfl ?_)
  have hS3 := Heap.get?_update_self (Obj.mapSeq (·.push Value.none)) hS2 rfl
  refine wpAny_updateSeq (hz := by seq_fits) hS3 rfl ?_
  have hS4 := Heap.get?_update_self (Obj.mapSeq (·.pop)) hS3 rfl
  have k4 := up _ (Obj.mapSeq (·.pop)) (up _ (Obj.mapSeq (·.push Value.none)) k2)
  refine wpAny_pure ⟨plainId_quiet PySem.F.plain_extend_loop _, ?_⟩
  have hSn : H s.heap.objs.size = none := I.hok.fresh (Nat.le_refl _)
  have I4 := I.laid (a := s.heap.objs.size) (o := .lst []) (t' := s.toks) k4 (Nat.le_refl _) ⟨Nat.zero_le _, [], _, .nil, hS4⟩
  have g4 : Gr H (upd H s.heap.objs.size (.lst [])) := Gr.new hSn
  have lt : ∀ {c : Addr} {o : Obj}, s.heap.get? c = some o → s.heap.objs.size ≠ c := fun e => Nat.ne_of_gt (Heap.lt_size e)
  have la : a ≠ s.heap.objs.size := by
    obtain ⟨_, _, p, _⟩ := I.list hqx
    exact Nat.ne_of_lt p.lt
  have lb : b ≠ s.heap.objs.size := by
    obtain ⟨_, _, p, _⟩ := I.list hqy
    exact Nat.ne_of_lt p.lt
  have n1 : s.heap.objs.size ≠ i1 := by obtain ⟨_, e, _⟩ := h1; exact lt e
  have n2 : s.heap.objs.size ≠ i2 := by obtain ⟨_, e, _⟩ := h2; exact lt e
  refine list_zip_loop (A := X.A.in1) (H0 := H) hh D hSz (lt hTI) (lt hTO) n1 n2 la lb hn (fun s' H' acc I' g' hS' hp => ⟨rfl, hQ s' H' acc I' (fun c o e => g' c o (ne_of_none e hSn) e) hSn hS' hp⟩) (min xs.length ys.length) 0 _ _ [] (Nat.sub_zero _) (Nat.zero_le _) I4 (fun c hc => ?_)
    ⟨k4 _ _ hTI, h1.at fun o e => k4 _ o e, h2.at fun o e => k4 _ o e, .inl ⟨k4 _ _ hz, u, v, k4 _ _ hTO⟩⟩ (fun c o hc e => by rw [upd_ne hc]; exact e) upd_same (g4.sqL hqx) (g4.sqL hqy) ⟨rfl, fun j u hj => by simp at hj⟩
  obtain ⟨f0, f1⟩ := hf c hc
  have e' : c = z ∨ c = TI ∨ c = TO ∨ c = i1 ∨ c = i2 := by simpa using hc
  have cl : c ≠ s.heap.objs.size := by
    rcases e' with q | q | q | q | q
    · rw [q]; exact Ne.symm hSz
    · rw [q]; exact Ne.symm (lt hTI)
    · rw [q]; exact Ne.symm (lt hTO)
    · rw [q]; exact Ne.symm n1
    · rw [q]; exact Ne.symm n2
  exact ⟨by rw [upd_ne cl]; exact f0, f1⟩
def rLz (K : PySem.W.Frag) (ta : TA) : TE := fun σ H Q => ta σ H fun vs H1 => ∃ a b xs ys, vs = [.ref a, .ref b] ∧ SqL K H1 a xs ∧ SqL K H1 b ys ∧ min xs.length ys.length < sizeLine ∧ ∀ S H' acc, Gr H1 H' → H1 S = none → H' S = some (.lst acc) → Pairs2 H' xs ys (min xs.length ys.length) acc → Q (.ref S) H'
theorem pe_listZip {e e2 : Expr} {ta : TA} {p p2 pos pos2 : Pos} (hc : X.calm = true) (hg : Gl X "list") (hm : X.mg "list" = none) (hg2 : Gl X "zip") (hm2 : X.mg "zip" = none) (ha : PA X [e, e2] ta)
    (hs : starEach [.Call (.Name "zip" p2) [e, e2] [] pos2] X.env = (false, eval (.Call (.Name "zip" p2) [e, e2] [] pos2) X.env) :: starEach [] X.env := by rfl)
    (hs1 : starEach [e, e2] X.env = (false, eval e X.env) :: starEach [e2] X.env := by rfl) (hpl : (backTo pos2 (starEach [e2] X.env)).any (·.1) = false := by rfl) :
    PE X (.Call (.Name "list" p) [.Call (.Name "zip" p2) [e, e2] [] pos2] [] pos) (rLz X.K ta) := by
  refine ⟨fun pins s σ H Q I h => ?_⟩
  refine wpAny_Call_Name_kw (ld_blt I hg hm (show bootBuiltins "list" = some (.type "list") from rfl) ?_)
  refine PyProof.Rows.callWith_type1 ?_ hs rfl
  rw [hs]
  show wpAny _ _ (spliced ((false, eval (.Call (.Name "zip" p2) [e, e2] [] pos2) X.env) :: backTo pos (starEach [] X.env))) _ _ s
  refine Calls.spliced_cons ?_
  refine Call_ (ld_blt I hg2 hm2 PyProof.Rows.boot_zip (PyProof.Rows.callWith_type1 (thn (ha.run pos2 pins s σ H _ I h) fun us s1 ⟨vs, H1, I1, r1, q1⟩ => ?_) hs1 hpl))
  obtain ⟨a, b, xs, ys, ex, hqx, hqy, hn, q⟩ := q1
  subst ex
  cases r1 with
  | cons r rr =>
    cases rr with
    | cons r' rr =>
      cases rr
      cases r
      cases r'
      obtain ⟨its, rv, p1, _⟩ := I1.list hqx
      obtain ⟨its2, rv2, p2', _⟩ := I1.list hqy
      have la : a < s1.heap.objs.size := p1.lt
      have lb : b < s1.heap.objs.size := p2'.lt
      refine call_zip_2 p1.isList p2'.isList fun h' hz hTI hTO h1 h2 hsz hk => ?_
      have I2 : Inv X pins σ H1 { s1 with heap := h' } := I1.kept (t' := s1.toks) hk
      refine Calls.spliced_nil ?_
      refine call_list_zip (I1.ok.hd hc) I2 (fun c hcm => ?_) (PySem.W.ktu_apart s1.heap.objs.size a b la lb) hz hTI ⟨_, _, hTO⟩ h1 h2 hqx hqy hn fun s' H' acc I' g' n' hS' hp => ⟨V.ref h'.objs.size, H', I', rfl, q _ H' acc g' n' hS' hp⟩
      have e' : c = s1.heap.objs.size + 4 ∨ c = s1.heap.objs.size + 2 ∨ c = s1.heap.objs.size + 3 ∨ c = s1.heap.objs.size ∨ c = s1.heap.objs.size + 1 := by simpa using hcm
      have hle : s1.heap.objs.size ≤ c := by
        rcases e' with z | z | z | z | z
        · rw [z]; exact Nat.le_add_right _ _
        · rw [z]; exact Nat.le_add_right _ _
        · rw [z]; exact Nat.le_add_right _ _
        · rw [z]; exact Nat.le_refl _
        · rw [z]; exact Nat.le_add_right _ _
      exact I1.fpOk hle (I1.hok.fresh hle)
end
section
variable {G : Gx} {X : Cx} {lv : Nat} {r : DEnv} {e a b c tg : Expr} {es : List Expr} {pos p p2 kp : Pos}
theorem dps_of {K : PySem.W.Frag} {H : Hp} : ∀ {vs : List V} {ds : List PyData}, vs.length = ds.length → (∀ (j : Nat) (v : V) (d : PyData), vs[j]? = some v → ds[j]? = some d → Dp K H v d) → DpAll K H vs ds
  | [], [], _, _ => .nil
  | [], _ :: _, h, _ => by simp at h
  | _ :: _, [], h, _ => by simp at h
  | v :: vs, d :: ds, h, k => .cons (k 0 v d rfl rfl) (dps_of (by simpa using h) fun j v' d' e1 e2 => k (j + 1) v' d' (by simpa using e1) (by simpa using e2))
/-- list(zip(a, b)) -/
theorem dn_listZip [o : On G X lv] {α β : Type} [DecidableEq α] [Datum α] [Imm α] [DecidableEq β] [Datum β] [Imm β] {xs : List α} {ys : List β} {pos2 : Pos} (ha : DW G X a r (D xs)) (hb : DW G X b r (D ys)) (hz : xs.length ≤ 100000) (hg : Gl X "list" := by rfl) (hg2 : Gl X "zip" := by rfl)
    (hs : starEach [.Call (.Name "zip" p2) [a, b] [] pos2] X.env = (false, eval (.Call (.Name "zip" p2) [a, b] [] pos2) X.env) :: starEach [] X.env := by rfl)
    (hs1 : starEach [a, b] X.env = (false, eval a X.env) :: starEach [b] X.env := by rfl) (hs2 : starEach [b] X.env = [(false, eval b X.env)] := by rfl) (hpl : (backTo pos2 (starEach [b] X.env)).any (·.1) = false := by rfl) :
    DN G X (.Call (.Name "list" p) [.Call (.Name "zip" p2) [a, b] [] pos2] [] pos) r (Ds (xs.zip ys)) := by
  obtain ⟨⟨CT, CB, rfl⟩, hc, _, _, gl⟩ := o
  refine ⟨imsD _, lift (pe_listZip hc hg gl.list hg2 gl.zip (da_cons ha (da_one hb hs2) hs1) hs hs1 hpl) fun σ H Q ⟨O, f, q⟩ => ⟨O, f, fun vs H1 g1 r1 => ?_⟩⟩
  obtain ⟨v, u, rfl, r2, r3⟩ := rep2 r1
  obtain ⟨l, ws, rfl, h1, h2⟩ := dp_lst r2
  obtain ⟨l2, ws2, rfl, h3, h4⟩ := dp_lst r3
  have e1 := dps_len h2
  have e2 := dps_len h4
  rw [List.length_map] at e1 e2
  refine ⟨l, l2, ws, ws2, rfl, h1, h3, Nat.lt_of_lt_of_le (show min ws.length ws2.length < 100001 by omega) (by rw [sizeLine_eq]; decide), fun S H' acc g' n' hS hp => q S acc H' (g1.back n') (g1.trans g') hS ?_⟩
  refine dps_of ?_ fun j v d hv hd => ?_
  · rw [hp.1, List.length_map, List.length_zip]
    omega
  · obtain ⟨T, x, y, rfl, hT, hx, hy⟩ := hp.2 j v hv
    obtain ⟨dx, hdx, px⟩ := dps_get h2 hx
    obtain ⟨dy, hdy, py⟩ := dps_get h4 hy
    rw [List.getElem?_map] at hdx hdy hd
    cases ex : xs[j]? with
    | none => rw [ex] at hdx; cases hdx
    | some x0 =>
      cases ey : ys[j]? with
      | none => rw [ey] at hdy; cases hdy
      | some y0 =>
        rw [ex] at hdx
        rw [ey] at hdy
        cases hdx
        cases hdy
        rw [List.getElem?_zip_eq_some (z := (x0, y0)) |>.mpr ⟨ex, ey⟩] at hd
        cases hd
        exact .tup (.of hT) (.cons (dp_gr g' _ _ px) (dps_one (dp_gr g' _ _ py)))
end
end RC

/-! RqA: plain law: orders of data. -/
namespace RC
open PySem.W (Datum DatumOrd Tup T3 minOf maxOf listLt)
/-- a strict order in which any two differ by place -/
class Lin (α : Type) [DecidableEq α] [DatumOrd α] : Prop where
  irr : ∀ a : α, DatumOrd.lt a a = false
  tr : ∀ a b c : α, DatumOrd.lt a b = true → DatumOrd.lt b c = true → DatumOrd.lt a c = true
  tri : ∀ a b : α, a ≠ b → DatumOrd.lt a b = true ∨ DatumOrd.lt b a = true
instance : Lin Int where
  irr a := by simp [DatumOrd.lt]
  tr a b c h1 h2 := by simp only [DatumOrd.lt, decide_eq_true_eq] at *; omega
  tri a b h := by simp only [DatumOrd.lt, decide_eq_true_eq]; omega
section
variable {α β γ : Type} [DecidableEq α] [DatumOrd α] [Lin α] [DecidableEq β] [DatumOrd β] [Lin β] [DecidableEq γ] [DatumOrd γ] [Lin γ]
theorem listLt_irr : ∀ xs : List α, listLt xs xs = false
  | [] => rfl
  | x :: xs => by simp only [listLt, if_pos rfl]; exact listLt_irr xs
theorem listLt_tr : ∀ xs ys zs : List α, listLt xs ys = true → listLt ys zs = true → listLt xs zs = true
  | [], [], _, h, _ => by simp [listLt] at h
  | [], _ :: _, [], _, h => by simp [listLt] at h
  | [], _ :: _, _ :: _, _, _ => rfl
  | _ :: _, [], _, h, _ => by simp [listLt] at h
  | _ :: _, _ :: _, [], _, h => by simp [listLt] at h
  | x :: xs, y :: ys, z :: zs, h1, h2 => by
    simp only [listLt] at *
    by_cases e1 : x = y
    · subst e1
      rw [if_pos rfl] at h1
      by_cases e2 : x = z
      · subst e2
        rw [if_pos rfl] at h2 ⊢
        exact listLt_tr xs ys zs h1 h2
      · rw [if_neg e2] at h2 ⊢
        exact h2
    · rw [if_neg e1] at h1
      by_cases e2 : y = z
      · subst e2
        rw [if_neg e1]
        exact h1
      · rw [if_neg e2] at h2
        have h3 := Lin.tr x y z h1 h2
        by_cases e3 : x = z
        · subst e3
          rw [Lin.irr] at h3
          cases h3
        · rw [if_neg e3]
          exact h3
theorem listLt_tri : ∀ xs ys : List α, xs ≠ ys → listLt xs ys = true ∨ listLt ys xs = true
  | [], [], h => absurd rfl h
  | [], _ :: _, _ => .inl rfl
  | _ :: _, [], _ => .inr rfl
  | x :: xs, y :: ys, h => by
    simp only [listLt]
    by_cases e : x = y
    · subst e
      rw [if_pos rfl, if_pos rfl]
      exact listLt_tri xs ys fun z => h (by rw [z])
    · rw [if_neg e, if_neg (Ne.symm e)]
      exact Lin.tri x y e
instance : Lin (Tup α) where
  irr a := listLt_irr a.items
  tr a b c := listLt_tr a.items b.items c.items
  tri a b h := listLt_tri a.items b.items fun e => h (by cases a; cases b; cases e; rfl)
instance : Lin (α × β) where
  irr a := by
    show (if a.1 = a.1 then DatumOrd.lt a.2 a.2 else DatumOrd.lt a.1 a.1) = false
    rw [if_pos rfl, Lin.irr]
  tr a b c h1 h2 := by
    have h1' : (if a.1 = b.1 then DatumOrd.lt a.2 b.2 else DatumOrd.lt a.1 b.1) = true := h1
    have h2' : (if b.1 = c.1 then DatumOrd.lt b.2 c.2 else DatumOrd.lt b.1 c.1) = true := h2
    show (if a.1 = c.1 then DatumOrd.lt a.2 c.2 else DatumOrd.lt a.1 c.1) = true
    by_cases e1 : a.1 = b.1
    · rw [if_pos e1] at h1'
      by_cases e2 : b.1 = c.1
      · rw [if_pos e2] at h2'
        rw [if_pos (e1.trans e2)]
        exact Lin.tr _ _ _ h1' h2'
      · rw [if_neg e2] at h2'
        rw [e1, if_neg e2]
        exact h2'
    · rw [if_neg e1] at h1'
      by_cases e2 : b.1 = c.1
      · rw [← e2, if_neg e1]
        exact h1'
      · rw [if_neg e2] at h2'
        have h3 := Lin.tr _ _ _ h1' h2'
        by_cases e3 : a.1 = c.1
        · rw [e3, Lin.irr] at h3
          cases h3
        · rw [if_neg e3]
          exact h3
  tri a b h := by
    show (if a.1 = b.1 then DatumOrd.lt a.2 b.2 else DatumOrd.lt a.1 b.1) = true ∨ (if b.1 = a.1 then DatumOrd.lt b.2 a.2 else DatumOrd.lt b.1 a.1) = true
    by_cases e : a.1 = b.1
    · rw [if_pos e, if_pos e.symm]
      exact Lin.tri _ _ fun z => h (Prod.ext e z)
    · rw [if_neg e, if_neg (Ne.symm e)]
      exact Lin.tri _ _ e
theorem lt_t3 (a b : T3 α β γ) : DatumOrd.lt a b = if a.a = b.a then (if a.b = b.b then DatumOrd.lt a.c b.c else DatumOrd.lt a.b b.b) else DatumOrd.lt a.a b.a := rfl
theorem t3_pair (a b : T3 α β γ) : DatumOrd.lt a b = DatumOrd.lt (α := α × (β × γ)) (a.a, (a.b, a.c)) (b.a, (b.b, b.c)) := by
  rw [lt_t3]
  show _ = if a.a = b.a then (if a.b = b.b then DatumOrd.lt a.c b.c else DatumOrd.lt a.b b.b) else DatumOrd.lt a.a b.a
  rfl
instance : Lin (T3 α β γ) where
  irr a := by rw [t3_pair]; exact Lin.irr _
  tr a b c h1 h2 := by rw [t3_pair] at *; exact Lin.tr _ _ _ h1 h2
  tri a b h := by
    rw [t3_pair, t3_pair]
    refine Lin.tri _ _ fun e => h ?_
    cases a
    cases b
    injection e with e1 e
    injection e with e2 e3
    simp only at e1 e2 e3
    subst e1 e2 e3
    rfl

theorem lt_asym {a b : α} (h : DatumOrd.lt a b = true) : DatumOrd.lt b a = false := by
  cases e : DatumOrd.lt b a with
  | false => rfl
  | true =>
    have := Lin.tr a b a h e
    rw [Lin.irr] at this
    cases this
theorem lt_ne {a b : α} (h : DatumOrd.lt a b = true) : a ≠ b := fun e => by rw [e, Lin.irr] at h; cases h
theorem le_tr {a b c : α} (h1 : DatumOrd.lt b a = false) (h2 : DatumOrd.lt c b = false) : DatumOrd.lt c a = false := by
  cases e : DatumOrd.lt c a with
  | false => rfl
  | true =>
    by_cases z : a = b
    · subst z; rw [e] at h2; cases h2
    · rcases Lin.tri a b z with q | q
      · rw [Lin.tr _ _ _ e q] at h2; cases h2
      · rw [q] at h1; cases h1
theorem le_anti {a b : α} (h1 : DatumOrd.lt b a = false) (h2 : DatumOrd.lt a b = false) : a = b := by
  by_cases z : a = b
  · exact z
  · rcases Lin.tri a b z with q | q
    · rw [q] at h2; cases h2
    · rw [q] at h1; cases h1
/-- ascending -/
abbrev Asc (xs : List α) : Prop := xs.Pairwise fun a b => DatumOrd.lt b a = false
/-- strictly ascending -/
abbrev Sasc (xs : List α) : Prop := xs.Pairwise fun a b => DatumOrd.lt a b = true
theorem sortD_asc (xs : List α) : Asc (sortD xs) := by
  unfold sortD
  have := List.pairwise_mergeSort (le := fun a b : α => !DatumOrd.lt b a) (fun a b c h1 h2 => by
    simp only [Bool.not_eq_true'] at *
    exact le_tr h1 h2) (fun a b => by
    cases e : DatumOrd.lt b a with
    | false => rfl
    | true => rw [lt_asym e]; rfl) xs
  exact this.imp fun h => by simpa using h
theorem Sasc.nodup {xs : List α} (h : Sasc xs) : xs.Nodup := h.imp fun q => lt_ne q
theorem Asc.strict {xs : List α} (h : Asc xs) (n : xs.Nodup) : Sasc xs := by
  have := h.and n
  exact this.imp fun ⟨q, ne⟩ => by
    rcases Lin.tri _ _ ne with z | z
    · exact z
    · rw [z] at q; cases q
theorem Sasc.asc {xs : List α} (h : Sasc xs) : Asc xs := h.imp fun q => lt_asym q
/-- ascending lists of the same items are one -/
theorem asc_eq {xs ys : List α} (h1 : Asc xs) (h2 : Asc ys) (p : xs.Perm ys) : xs = ys := by
  induction xs generalizing ys with
  | nil => exact (List.nil_perm.mp p).symm ▸ rfl
  | cons x xs ih =>
    cases ys with
    | nil => exact absurd p.symm (by simp)
    | cons y ys =>
      have h1 := List.pairwise_cons.mp h1
      have h2 := List.pairwise_cons.mp h2
      have e : x = y := by
        have m1 : x ∈ y :: ys := p.mem_iff.mp List.mem_cons_self
        have m2 : y ∈ x :: xs := p.mem_iff.mpr List.mem_cons_self
        rcases List.mem_cons.mp m1 with e | m1
        · exact e
        · rcases List.mem_cons.mp m2 with e | m2
          · exact e.symm
          · exact le_anti (h1.1 y m2) (h2.1 x m1)
      subst e
      rw [ih h1.2 h2.2 ((List.perm_cons _).mp p)]
theorem sortD_id {xs : List α} (h : Asc xs) : sortD xs = xs := asc_eq (sortD_asc xs) h (sortD_perm xs)
theorem sasc_eq {xs ys : List α} (h1 : Sasc xs) (h2 : Sasc ys) (m : ∀ x, x ∈ xs ↔ x ∈ ys) : xs = ys :=
  asc_eq h1.asc h2.asc ((List.perm_ext_iff_of_nodup h1.nodup h2.nodup).mpr m)
theorem sortD_mem {xs : List α} {x : α} : x ∈ sortD xs ↔ x ∈ xs := (sortD_perm xs).mem_iff
theorem sortD_len (xs : List α) : (sortD xs).length = xs.length := (sortD_perm xs).length_eq
theorem sortD_nodup {xs : List α} (h : xs.Nodup) : Sasc (sortD xs) := (sortD_asc xs).strict ((sortD_perm xs).nodup_iff.mpr h)
/-- the least is one of them and none is less -/
theorem minOf_mem (x : α) (xs : List α) : minOf x xs ∈ x :: xs := by
  unfold minOf
  induction xs generalizing x with
  | nil => exact List.mem_cons_self
  | cons y ys ih =>
    rw [List.foldl_cons]
    have := ih (if DatumOrd.lt y x = true then y else x)
    rcases List.mem_cons.mp this with e | e
    · rw [e]
      split
      · exact List.mem_cons_of_mem _ List.mem_cons_self
      · exact List.mem_cons_self
    · exact List.mem_cons_of_mem _ (List.mem_cons_of_mem _ e)
theorem minOf_le (x : α) (xs : List α) : ∀ y, y ∈ x :: xs → DatumOrd.lt y (minOf x xs) = false := by
  unfold minOf
  induction xs generalizing x with
  | nil =>
    intro y hy
    rcases List.mem_cons.mp hy with rfl | hy
    · exact Lin.irr _
    · cases hy
  | cons z zs ih =>
    intro y hy
    rw [List.foldl_cons]
    have first := ih (if DatumOrd.lt z x = true then z else x)
    have h0 := first _ List.mem_cons_self
    rcases List.mem_cons.mp hy with rfl | hy
    · cases e : DatumOrd.lt z y with
      | true =>
        simp only [e, if_true] at h0 ⊢
        exact le_tr h0 (lt_asym e)
      | false => simpa only [e, Bool.false_eq_true, if_false] using h0
    · rcases List.mem_cons.mp hy with rfl | hy
      · cases e : DatumOrd.lt y x with
        | true => simpa only [e, if_true] using h0
        | false =>
          simp only [e, Bool.false_eq_true, if_false] at h0 ⊢
          exact le_tr h0 e
      · exact first y (List.mem_cons_of_mem _ hy)
end
end RC

/-! RcO: sorted(set(t)), t a tuple of rows. -/
namespace RC
open PySem PySem.Spec PyProof.Rows L2
section
variable {P : Program} {w : World} {A : Around} {E : Value → Shared → Prop} {s : Shared}
set_option maxHeartbeats 6400000 in
/-- set(t) of a tuple of tuples of ints -/
theorem call_set_tupT {l : Addr} {items : Array Value} (ks : List (Addr × List Int)) {Q : Value → Shared → Prop} (hh : A.handled = none) (hl : s.heap.IsTuple l items) (hit : items.toList = ks.map fun p => Value.ref p.1)
    (hk : ∀ p ∈ ks, IsT P w s.heap p.2 p.1) (hfew : ks.length < 64) (hu : A.units + 3 < cLine)
    (h : ∀ (h' : Heap) (tk : Nat) L es ep t, SetTR P w h' s.heap.objs.size L es ep t → Got ks ks.length L → (∀ b o, s.heap.get? b = some o → h'.get? b = some o) → Q (.ref s.heap.objs.size) { s with heap := h', toks := tk }) :
    wpAny (model P w) A (call (.type "set") [.ref l]) Q E s := by
  have hisz : items.size = ks.length := by
    have q := congrArg List.length hit
    rw [Array.length_toList, List.length_map] at q
    exact q
  obtain ⟨c, tl, hmro⟩ := F.called_set.mro
  have hmade := F.called_set.made
  have hsub := F.called_set.sub
  refine wpAny_call (codeAny_of_tree ?_)
  show wpAny _ _ (callAny (.type "set") _) _ _ _
  refine wpAny_pure ⟨Code.quiet_builtin _ (by decide +kernel), codeAny_builtin F.entry_type_call ?_⟩
  rw [Around.under_plain (weight_type_call_type "set" [.ref l] []) rfl]
  have h1 := F.called_set.notType
  have h2 := F.called_set.canCreate
  have hct := F.typeCall_set_1 (.ref l)
  repeat (any_goals (first | assumption | wp_step))
  refine codeAny_mono (code_set_led1 (.ref l) (E := E) (Q₁ := fun obj s₁ => obj = .ref s.heap.objs.size ∧ s₁ = { s with heap := s.heap.push { cls := .type "set", dict := none, data := .set #[] 0 (.fresh 0 0 (!w.params.followText "set-order")) } }) ⟨rfl, rfl⟩) fun r s₁ hr => ?_
  cases r with
  | error e => exact hr
  | ok fl =>
    cases fl with
    | ret obj =>
      obtain ⟨rfl, rfl⟩ := hr
      have hS : (s.heap.push { cls := .type "set", dict := none, data := .set #[] 0 (.fresh 0 0 (!w.params.followText "set-order")) }).get? s.heap.objs.size = some { cls := .type "set", dict := none, data := .set #[] 0 (.fresh 0 0 (!w.params.followText "set-order")) } := Heap.get?_push_size _ rfl
      have hT : Shared.TypeIs { s with heap := s.heap.push { cls := .type "set", dict := none, data := .set #[] 0 (.fresh 0 0 (!w.params.followText "set-order")) } } (.ref s.heap.objs.size) "set" := ⟨_, hS, rfl⟩
      have hli := F.called_set.init.lookup
      have hbi := F.called_set.init.bind (.ref s.heap.objs.size)
      repeat (any_goals (first | assumption | wp_step))
      refine codeAny_mono (codeAny_call_builtin (R := wants (fun r s₂ => r = .none ∧ ∃ h' tk L es ep t, s₂ = { s with heap := h', toks := tk } ∧ SetTR P w h' s.heap.objs.size L es ep t ∧ Got ks ks.length L ∧
          (∀ b o, s.heap.get? b = some o → h'.get? b = some o)) E) F.called_set.init.plain F.entry_set_init (check_set_init_1 hT ?_)) fun r₂ s₂ hr₂ => ?_
      · obtain ⟨ol, hol, hcl, nl, hdl⟩ := hl
        obtain ⟨ocls, odict, odata, oslots⟩ := ol
        simp only at hcl hdl
        subst hcl; subst hdl
        have hol' : (s.heap.push { cls := .type "set", dict := none, data := .set #[] 0 (.fresh 0 0 (!w.params.followText "set-order")) }).get? l = some { cls := .type "tuple", dict := odict, data := .seq items nl, slots := oslots } := Heap.get?_push_of_some _ hol
        have hsls := PySem.F.sub_tuple_set
        have hslf := PySem.F.sub_tuple_frozenset
        have hne : (Value.type "tuple" == Value.type "dict") = false := by decide
        have hl1 : (s.heap.push { cls := .type "set", dict := none, data := .set #[] 0 (.fresh 0 0 (!w.params.followText "set-order")) }).IsTuple l items := ⟨_, hol', rfl, nl, rfl⟩
        unfold Builtin.«set.__init__» noKeywords Builtin.Frozenset.updateFrom
        generalize hPI : pyIter = PI
        wp_walk
        subst hPI
        refine wpAny_pyIter_tuple hl1 ?_
        refine wpAny_bind (wpAny_runValue ?_)
        have hlS : l < s.heap.objs.size := Heap.lt_size hol
        have hh3 : A.in1.in1.in1.handled = none := by simp [hh]
        have hz1 : (s.heap.push { cls := .type "set", dict := none, data := .set #[] 0 (.fresh 0 0 (!w.params.followText "set-order")) }).objs.size = s.heap.objs.size + 1 := Heap.size_push ..
        have hneI : l ≠ (s.heap.push { cls := .type "set", dict := none, data := .set #[] 0 (.fresh 0 0 (!w.params.followText "set-order")) }).objs.size := by
          rw [Heap.size_push]; exact Nat.ne_of_lt (Nat.lt_succ_of_lt hlS)
        have hSf : s.heap.objs.size ∉ [(s.heap.push { cls := .type "set", dict := none, data := .set #[] 0 (.fresh 0 0 (!w.params.followText "set-order")) }).objs.size, l] := by
          rw [Heap.size_push]; simp only [List.mem_cons, List.mem_singleton, List.not_mem_nil, or_false, not_or]
          exact ⟨Nat.ne_of_lt (Nat.lt_succ_self _), Nat.ne_of_gt hlS⟩
        have hval : ∀ (i : Nat) (v : Value), items[i]? = some v → ∃ p, ks[i]? = some p ∧ v = .ref p.1 := fun i v hv => by
          have q : items.toList[i]? = some v := by rw [Array.getElem?_toList]; exact hv
          rw [hit, List.getElem?_map] at q
          cases hq : ks[i]? with
          | none => rw [hq] at q; cases q
          | some p =>
            rw [hq] at q
            exact ⟨p, rfl, (Option.some.inj q).symm⟩
        have none_of : ∀ b, s.heap.objs.size ≤ b → s.heap.get? b = none := fun b hb => by
          cases q : s.heap.get? b with
          | none => rfl
          | some o => exact absurd (Nat.lt_of_lt_of_le (Heap.lt_size q) hb) (Nat.lt_irrefl _)
        refine set_update_tups ((Walks.tuple hh3 _ l hneI items).toS) s.heap.objs.size
          hSf ks hisz hfew hval s.heap hk (none_of _ (Nat.le_refl _)) (fun b hb => none_of b (by
            rw [List.mem_singleton.mp hb, Heap.size_push]
            exact Nat.le_succ _)) hu (items.size - 0) 0 _ (by omega) (Nat.zero_le _)
          ⟨⟨_, Heap.get?_push_size _ rfl, rfl, rfl⟩, (hl1.push _)⟩ (fun b o e => Heap.get?_push_of_some _ (Heap.get?_push_of_some _ e)) ?hS0 ?hR
        case hS0 =>
          have hget : ((s.heap.push { cls := .type "set", dict := none, data := .set #[] 0 (.fresh 0 0 (!w.params.followText "set-order")) }).push { cls := .type "tuple_iterator", data := .fields #[.ref l, .int 0 0] }).get? s.heap.objs.size
              = some { cls := .type "set", dict := none, data := .set #[] 0 (.fresh 0 0 (!w.params.followText "set-order")) } := Heap.get?_push_of_some _ hS
          exact ⟨[], #[], 0, _, setTR_fresh hget, Got.zero ks⟩
        case hR =>
          intro s' L es ep t hm hS' g' hkp
          obtain ⟨h', g2, d', tk', os'⟩ := s'
          have eg : g2 = s.gens := hm.gens
          have ed : d' = s.drawn := hm.drawn
          have eo : os' = s.os := hm.os
          subst eg; subst ed; subst eo
          show wpAny _ _ _ _ _ _
          refine wpAny_pure ?_
          show wpAny _ _ (ret Value.none) _ _ _
          rw [hisz] at g'
          exact wpAny_pure ⟨rfl, h', tk', L, es, ep, t, rfl, hS', g', hkp⟩
      · cases r₂ with
        | error e => exact hr₂
        | ok fl₂ =>
          cases fl₂ with
          | ret r =>
            obtain ⟨rfl, h', tk, L, es, ep, t, rfl, hS', g', hk'⟩ := hr₂
            repeat (any_goals (first | assumption | wp_step))
            exact h _ _ _ _ _ _ hS' g' hk'
          | _ => exact hr₂.elim
    | _ => exact hr.elim
end
section
variable {X : Cx}
def rSetOfTT (K : PySem.W.Frag) (P : Program) (w : World) : List V → Hp → VK → Prop := fun xs H Q => ∃ (l : Addr) (ks : List (Addr × List Int)), xs = [V.ref l] ∧ SqT K H l (ks.map fun p => V.ref p.1) ∧ (∀ p ∈ ks, SqT K H p.1 (p.2.map V.int)) ∧ ks.length < 64 ∧
  ∀ a L, H a = none → (∀ p ∈ L, p ∈ ks) → (∀ p ∈ ks, p.2 ∈ L.map (·.2)) → Q (.ref a) (upd H a (SetTO P w a L))
theorem cr_setOfTT (hc : X.calm = true) (hu : X.A.units + 64 < cLine) : CallR X (.type "set") (rSetOfTT X.K X.prog X.w) := by
  intro pins s σ H xs us Q I r h
  obtain ⟨l, ks, rfl, hl, hk, hf, q⟩ := h
  rw [Vals.ref1 r]
  obtain ⟨its, rv, pl, hz⟩ := I.tuple hl
  have hn : H s.heap.objs.size = none := I.hok.fresh (Nat.le_refl _)
  refine call_set_tupT (P := X.prog) (w := X.w) ks (I.ok.hd hc) (isTup_is pl) (by simpa using refs_of_vals rv) (fun p hp => I.isT (hk p hp)) hf (by omega) fun h' tk L es ep t R g k => ?_
  refine ⟨.ref s.heap.objs.size, upd H s.heap.objs.size (SetTO X.prog X.w s.heap.objs.size L), I.laid (t' := tk) k (Nat.le_refl _) (setTO_new R.t0), rfl, q _ L hn (fun p hp => ?_) fun p hp => ?_⟩
  · exact List.mem_of_mem_take (g.sub p hp)
  · exact g.all p (by rw [List.take_length]; exact hp)
end
end RC

/-! RcP: sorted(set(t)), t.count(x), star displays, products of tuples. -/
namespace RC
open PySem PySem.Spec PyProof.Rows L2
open PySem.W (Datum DatumOrd Tup T3 Holds HoldAll minOf maxOf EachIs listLt)
theorem code_of_lt {B : Int} : ∀ (xs ys : List Int), xs.length = ys.length → TS.Bd B xs → TS.Bd B ys → listLt xs ys = true → TS.code B xs < TS.code B ys
  | [], [], _, _, _, h => by simp [listLt] at h
  | [], _ :: _, e, _, _, _ => by simp at e
  | _ :: _, [], e, _, _, _ => by simp at e
  | x :: xs, y :: ys, e, h1, h2, h => by
    have e' : xs.length = ys.length := by simpa using e
    simp only [listLt] at h
    by_cases z : x = y
    · subst z
      rw [if_pos rfl] at h
      exact (TS.code_same e').mpr (code_of_lt xs ys e' h1.tail h2.tail h)
    · rw [if_neg z] at h
      have h3 : x < y := by simpa [DatumOrd.lt] using h
      exact TS.code_lt e' h1.tail h2.tail h3
section
variable {G : Gx} {X : Cx} {lv : Nat} {r : DEnv} {e a b c : Expr} {es : List Expr} {pos p p2 kp : Pos} {K : PySem.W.Frag} {H : Hp}
theorem dp_row {v : V} {x : Row} (h : Dp K H v (toD x)) : ∃ q, v = .ref q ∧ SqT K H q (x.items.map V.int) := by
  have h' : Dp K H v (.tuple (x.items.map PyData.int)) := h
  obtain ⟨q, xs, rfl, h1, h2⟩ := dp_tup h'
  rw [dps_ints h2] at h1
  exact ⟨q, rfl, h1⟩
theorem row_dp {q : Addr} {x : Row} (h : SqT K H q (x.items.map V.int)) : Dp K H (.ref q) (toD x) := by
  refine .tup h ?_
  show DpAll K H (x.items.map V.int) (x.items.map PyData.int)
  exact dps_map _ _ fun i _ => .int i
theorem dps_rows : ∀ {rows : List Row} {ws : List V}, DpAll K H ws (Ds rows) → ∃ ks : List (Addr × List Int), ws = ks.map (fun p => V.ref p.1) ∧ ks.map (·.2) = rows.map (·.items) ∧ ∀ p ∈ ks, SqT K H p.1 (p.2.map V.int)
  | [], _, h => by cases h; exact ⟨[], rfl, rfl, fun p hp => by cases hp⟩
  | x :: rows, _, h => by
    cases h with
    | cons h1 h2 =>
      obtain ⟨q, rfl, hq⟩ := dp_row h1
      obtain ⟨ks, rfl, e, hk⟩ := dps_rows h2
      refine ⟨(q, x.items) :: ks, rfl, by rw [List.map_cons, e]; rfl, fun p hp => ?_⟩
      rcases List.mem_cons.mp hp with rfl | hp
      · exact hq
      · exact hk p hp
theorem rows_dps : ∀ {L : List (Addr × List Int)}, (∀ p ∈ L, SqT K H p.1 (p.2.map V.int)) → DpAll K H (L.map fun p => V.ref p.1) (Ds (L.map fun p => (Tup.mk p.2 : Row)))
  | [], _ => .nil
  | p :: L, h => .cons (row_dp (x := Tup.mk p.2) (h p List.mem_cons_self)) (rows_dps fun q hq => h q (List.mem_cons_of_mem _ hq))
theorem map_mk (rows : List Row) : (rows.map (·.items)).map (fun k => (Tup.mk k : Row)) = rows := by
  rw [List.map_map]
  exact (List.map_congr_left (fun x _ => by cases x; rfl)).trans (List.map_id _)
/-- sorted(set(t)) -/
theorem dn_sortSet [o : On G X lv] {rows out : List Row} {d : Nat} {B : Int} {pos2 : Pos} (ha : DW G X a r (D (Tup.mk rows))) (hn : rows.length < 64) (hd : 1 ≤ d) (hB : ∀ x, x ∈ rows → x.items.length = d ∧ TS.Bd B x.items) (hs : Sasc out) (hm : ∀ x, x ∈ out ↔ x ∈ rows)
    (hg : Gl X "sorted" := by rfl) (hg2 : Gl X "set" := by rfl) (he : starEach [a] X.env = [(false, eval a X.env)] := by rfl) (hpl : (backTo pos2 (starEach [] X.env)).any (·.1) = false := by rfl)
    (he2 : starEach [.Call (.Name "set" p2) [a] [] pos2] X.env = [(false, eval (.Call (.Name "set" p2) [a] [] pos2) X.env)] := by rfl) (hpl2 : (backTo pos (starEach [] X.env)).any (·.1) = false := by rfl) :
    DN G X (.Call (.Name "sorted" p) [.Call (.Name "set" p2) [a] [] pos2] [] pos) r (Ds out) := by
  have hu := on_units0 (G := G) (X := X) (n := 60) (by decide)
  have hu2 : X.A.units + 64 < cLine := by have := o.room.units; omega
  obtain ⟨⟨CT, CB, rfl⟩, hc, _, _, gl⟩ := o
  have P1 : PE X (.Call (.Name "set" p2) [a] [] pos2) _ := pe_callTy (cr_setOfTT hc hu2) hg2 gl.set (show bootBuiltins "set" = some (.type "set") from rfl) (da_one ha he) (by decide) (by decide) he hpl
  refine ⟨imsD _, lift (pe_callB (cr_sortedT hc) hg gl.sorted (show bootBuiltins "sorted" = some (.builtin "sorted") from rfl) (pa_cons P1 pa_nil he2) (by decide) (by decide) he2 hpl2) fun σ H Q ⟨O, f, q⟩ => ⟨O, f, fun vs H1 g1 r1 => ?_⟩⟩
  obtain ⟨v, rfl, r2⟩ := rep1 r1
  obtain ⟨l, ws, rfl, h1, h2⟩ := dp_tup r2
  obtain ⟨ks, rfl, ek, hk⟩ := dps_rows h2
  have lk : ks.length = rows.length := by
    have := congrArg List.length ek
    simpa using this
  refine ⟨l, ks, rfl, h1, hk, by omega, fun s L hsn sub all => ?_⟩
  have gs : Gr H1 (upd H1 s (SetTO X.prog X.w s L)) := Gr.new hsn
  have rowOf : ∀ p, p ∈ ks → (Tup.mk p.2 : Row) ∈ rows := fun p hp => by
    have : p.2 ∈ rows.map (·.items) := by rw [← ek]; exact List.mem_map_of_mem hp
    obtain ⟨x, hx, e⟩ := List.mem_map.mp this
    rw [← e]
    cases x
    exact hx
  refine ⟨s, L, d, B, rfl, upd_same, fun p hp => gs.sqT (hk p (sub p hp)), hd, fun p hp => hB _ (rowOf p (sub p hp)), fun L' q' pm nd _ pw hqn => ?_⟩
  have eo : L'.map (fun p => (Tup.mk p.2 : Row)) = out := by
    refine sasc_eq (Asc.strict ?_ ?_) hs fun x => ?_
    · refine List.pairwise_map.mpr (List.Pairwise.imp_of_mem (fun {x y} hx hy h => ?_) pw)
      have bx := hB _ (rowOf x (sub x (pm.mem_iff.mp hx)))
      have bY := hB _ (rowOf y (sub y (pm.mem_iff.mp hy)))
      cases z : DatumOrd.lt (Tup.mk y.2 : Row) (Tup.mk x.2) with
      | false => rfl
      | true =>
        have := code_of_lt y.2 x.2 (bY.1.trans bx.1.symm) bY.2 bx.2 z
        omega
    · have : (L'.map (·.2)).map (fun k => (Tup.mk k : Row)) = L'.map (fun p => (Tup.mk p.2 : Row)) := List.map_map
      rw [← this]
      exact List.pairwise_map.mpr (List.Pairwise.imp (fun h e => h (by injection e)) nd)
    · rw [hm]
      constructor
      · intro h
        obtain ⟨p, hp, rfl⟩ := List.mem_map.mp h
        exact rowOf p (sub p (pm.mem_iff.mp hp))
      · intro h
        have h2 : x.items ∈ ks.map (·.2) := by rw [ek]; exact List.mem_map_of_mem h
        obtain ⟨p, hp, e⟩ := List.mem_map.mp h2
        obtain ⟨p', hp', e'⟩ := List.mem_map.mp (all p hp)
        refine List.mem_map.mpr ⟨p', pm.mem_iff.mpr hp', ?_⟩
        show (Tup.mk p'.2 : Row) = x
        rw [e', e]
  have gq := gs.trans (Gr.new (o := .lst (L'.map fun q => V.ref q.1)) hqn)
  refine q q' _ _ (g1.back (gs.back hqn)) (g1.trans gq) upd_same ?_
  rw [← eo]
  exact rows_dps fun p hp => gq.sqT (hk p (sub p (pm.mem_iff.mp hp)))

/-! ### t.count(x) -/
def rCountT (K : PySem.W.Frag) (α : Type) [DecidableEq α] [Datum α] : V → List V → Hp → VK → Prop := fun x xs H Q => ∃ (b : V) (us : List α) (u : α), xs = [b] ∧ Dp K H x (.tuple (Ds us)) ∧ Dp K H b (toD u) ∧ Q (.int ((us.countP fun y => decide (y = u) : Nat) : Int)) H
theorem mt_countT {α : Type} [DecidableEq α] [Datum α] (hu : X.A.units + 1 + Datum.depth α < cLine) : MtR X "tuple.count" (rCountT X.K α) := by
  intro pins s σ H x xs v us Q I rx rxs h
  obtain ⟨b, ws, u, rfl, h1, h2, q⟩ := h
  obtain ⟨u1, rfl, r1⟩ := rxs.one
  obtain ⟨l, zs, rfl, hs, hd⟩ := dp_tup h1
  cases rx
  obtain ⟨its, rv, p, _⟩ := I.tuple hs
  exact PySem.W.count_tuple_datum (isTup_is p) (holdAll_of I hd rv) (holds_of I h2 r1) hu ⟨.int _, H, I.tok _, ⟨_, rfl⟩, q⟩
/-- t.rows.count(x), t a Table -/
theorem dw_count [o : On G X lv] {rows : List Row} {x : Row} {apos apos2 : Pos} (ha : DW G X a r (.tab rows)) (hb : DW G X b r (D x)) (hb0 : attributeBase a "rows" X.env (eval a X.env) = eval a X.env := by rfl)
    (pe : ∀ {to : TE} {t : TA}, PE X (.Attribute a "rows" apos2) to → PA X [b] t → PE X (.Call (.Attribute (.Attribute a "rows" apos2) "count" apos) [b] [] pos) (fun σ H Q => to σ H fun x H1 => (∃ a ob u, x = .ref a ∧ H1 a = some (.frz ob u) ∧ ob.cls = .type "tuple" ∧ ob.dict = none) ∧ t σ H1 fun xs H2 => rCountT X.K Row x xs H2 Q) := by exact fun h1 h2 => pe_bmF PySem.F.plainAttrs_tuple PySem.F.slot_tuple_count PySem.F.type_tuple_count (mt_countT (on_units (G := by assumption) (by decide))) h1 h2)
    (hst : starEach [b] X.env = [(false, eval b X.env)] := by rfl) : DW G X (.Call (.Attribute (.Attribute a "rows" apos2) "count" apos) [b] [] pos) r (.dat (.int ((rows.countP fun y => decide (y = x) : Nat) : Int))) := by
  obtain ⟨⟨CT, CB, rfl⟩, _, _, _, gl⟩ := o
  refine lift (pe (pe_fld ha hb0) (da_one hb hst)) fun σ H Q ⟨O, f, q⟩ => ⟨O, f, fun v H1 g1 r1 => ?_⟩
  obtain ⟨l, dx, t, rfl, h1, h2, ob, u, h3, h4, h5⟩ := r1
  refine ⟨l, CT, dx, _, .ref t, rfl, h1, gl.clT, gl.naT, lookup_rows t, ⟨t, ob, u, rfl, h3, h4, h5⟩, O, f.gr g1, fun vs H2 g2 r2 => ?_⟩
  obtain ⟨w, rfl, r3⟩ := rep1 r2
  exact ⟨w, rows, x, rfl, dp_gr g2 _ _ h2, r3, q _ H2 (g1.trans g2) (.int _)⟩
end
end RC

/-! RcQ: star displays, isinstance, properties, own ==, tuples times a number, tuple(..) whose object is known. -/
namespace RC
open PySem PySem.Spec PyProof.Rows L2
open PySem.W (Datum DatumOrd Tup T3 Holds HoldAll minOf maxOf EachIs listLt)

section
variable {G : Gx} {X : Cx} {lv : Nat} {r : DEnv} {e a b c o2 : Expr} {es : List Expr} {pos p p2 kp : Pos} {ds : List PyData} {d : XD}
/-! ### *e -/
theorem reps_dat {H : Hp} : ∀ {ds : List PyData} {vs : List V}, DpAll G.K H vs ds → RepAll G H vs (ds.map XD.dat)
  | [], _, h => by cases h; exact .nil
  | d :: ds, _, h => by
    cases h with
    | cons h1 h2 => exact .cons h1 (reps_dat h2)
theorem repAll_app {H : Hp} : ∀ {ds es : List XD} {vs ws : List V}, RepAll G H vs ds → RepAll G H ws es → RepAll G H (vs ++ ws) (ds ++ es)
  | [], _, _, _, h, k => by cases h; exact k
  | d :: ds, _, _, _, h, k => by
    cases h with
    | cons h1 h2 => exact .cons h1 (repAll_app h2 k)
theorem repAll_gr {H H' : Hp} (g : Gr H H') {ds : List XD} {vs : List V} (h : RepAll G H vs ds) : RepAll G H' vs ds := Paired.mapP h fun _ _ q => rep_gr g q
theorem da_starT [o : On G X lv] {rest : List XD} (h : DW G X e r (.dat (.tuple ds))) (t : DA G X es r rest) (hs : starEach (.Starred e p :: es) X.env = (true, eval e X.env) :: starEach es X.env := by rfl) : DA G X (.Starred e p :: es) r (ds.map XD.dat ++ rest) := by
  obtain ⟨⟨CT, CB, rfl⟩, _⟩ := o
  refine liftA (StX.pa_star h t hs) fun σ H Q ⟨O, f, q⟩ => ⟨O, f, fun v H1 g1 r1 => ?_⟩
  obtain ⟨l, xs, rfl, h1, h2⟩ := dp_tup r1
  exact ⟨l, xs, rfl, .inl h1, O, f.gr g1, fun vs H2 g2 r2 => q _ H2 (g1.trans g2) (repAll_app (repAll_gr g2 (reps_dat (G := ⟨X.prog, X.w, X.K, X.mg, X.base, CT, CB⟩) h2)) r2)⟩
theorem da_starL [o : On G X lv] {rest : List XD} (h : DW G X e r (.dat (.list ds))) (t : DA G X es r rest) (hs : starEach (.Starred e p :: es) X.env = (true, eval e X.env) :: starEach es X.env := by rfl) : DA G X (.Starred e p :: es) r (ds.map XD.dat ++ rest) := by
  obtain ⟨⟨CT, CB, rfl⟩, _⟩ := o
  refine liftA (StX.pa_star h t hs) fun σ H Q ⟨O, f, q⟩ => ⟨O, f, fun v H1 g1 r1 => ?_⟩
  obtain ⟨l, xs, rfl, h1, h2⟩ := dp_lst r1
  exact ⟨l, xs, rfl, .inr h1, O, f.gr g1, fun vs H2 g2 r2 => q _ H2 (g1.trans g2) (repAll_app (repAll_gr g2 (reps_dat (G := ⟨X.prog, X.w, X.K, X.mg, X.base, CT, CB⟩) h2)) r2)⟩
/-- (*t, x) -/
theorem dw_starOne [o : On G X lv] {α : Type} [DecidableEq α] [Datum α] {xs : List α} {x : α} {k : Nat} (h : DW G X a r (D (Tup.mk xs))) (hb : DW G X b r (D x)) (hl : xs.length < 1000) (hs : starEach [.Starred a p, b] X.env = (true, eval a X.env) :: starEach [b] X.env := by rfl) (hs2 : starEach [b] X.env = [(false, eval b X.env)] := by rfl) :
    DW G X (.Tuple [.Starred a p, b] k pos) r (D (Tup.mk (xs ++ [x]))) := by
  have h' : DW G X a r (.dat (.tuple (Ds xs))) := h
  have t := da_starT h' (da_one hb hs2) hs
  have e : (Ds xs).map XD.dat ++ [D x] = (Ds (xs ++ [x])).map XD.dat := by simp [Ds]
  rw [e] at t
  exact dw_tupD (ds := Ds (xs ++ [x])) t (by simp; omega)
/-- [*xs, *ys] -/
theorem dn_star2 [o : On G X lv] {α : Type} [DecidableEq α] [Datum α] [Imm α] {xs ys : List α} (h : DW G X a r (D xs)) (hb : DW G X b r (D ys)) (hl : xs.length + ys.length ≤ 1000) (hs : starEach [.Starred a p, .Starred b p2] X.env = (true, eval a X.env) :: starEach [.Starred b p2] X.env := by rfl) (hs2 : starEach [.Starred b p2] X.env = (true, eval b X.env) :: starEach [] X.env := by rfl) :
    DN G X (.List [.Starred a p, .Starred b p2] pos) r (Ds (xs ++ ys)) := by
  have h' : DW G X a r (.dat (.list (Ds xs))) := h
  have hb' : DW G X b r (.dat (.list (Ds ys))) := hb
  have t := da_starL h' (da_starL hb' da_nil hs2) hs
  have e : (Ds xs).map XD.dat ++ ((Ds ys).map XD.dat ++ []) = (Ds (xs ++ ys)).map XD.dat := by simp [Ds]
  rw [e] at t
  exact dn_lstD (ds := Ds (xs ++ ys)) t (imsD _) (by simp; omega)

/-! ### isinstance -/
theorem tyX_tup {K : PySem.W.Frag} {H : Hp} {l : Addr} {xs : List V} (h : SqT K H l xs) : TyX K H (.ref l) (.type "tuple") := by
  rcases h with (h | ⟨o, h⟩) | ⟨o, its, n, h1, h2, _⟩
  · exact .base (.tup h)
  · exact .fTuple h
  · exact .kTuple h1 h2
theorem tyX_lst {K : PySem.W.Frag} {H : Hp} {l : Addr} {xs : List V} (h : SqL K H l xs) : TyX K H (.ref l) (.type "list") := by
  rcases h with (h | ⟨o, h⟩) | ⟨o, its, n, h1, h2, _⟩
  · exact .base (.lst h)
  · exact .base (.frz h)
  · exact .kList h1 h2
/-- the class of what stands for d -/
def ClsD (G : Gx) (d : XD) (t : Value) : Prop := ∀ H v, Rep G H v d → TyX G.K H v t
theorem cls_int {i : Int} : ClsD G (.dat (.int i)) (.type "int") := fun H v h => by rw [dp_int h]; exact .base (.int i)
theorem cls_tup {ds : List PyData} : ClsD G (.dat (.tuple ds)) (.type "tuple") := fun H v h => by
  obtain ⟨l, xs, rfl, h1, _⟩ := dp_tup h
  exact tyX_tup h1
theorem cls_lst {ds : List PyData} : ClsD G (.dat (.list ds)) (.type "list") := fun H v h => by
  obtain ⟨l, xs, rfl, h1, _⟩ := dp_lst h
  exact tyX_lst h1
theorem cls_tab (gl : Glob G) {rows : List Row} : ClsD G (.tab rows) (.ref G.CT) := fun H v h => by
  obtain ⟨l, dx, t, rfl, h1, _⟩ := h
  exact .base (.ins h1 gl.clT gl.isfT.ha gl.isfT.hn gl.isfT.htk gl.isfT.hm)
theorem cls_bnd (gl : Glob G) {ts : List PyData} : ClsD G (.bnd ts) (.ref G.CB) := fun H v h => by
  obtain ⟨l, dx, t, xs, rfl, h1, _⟩ := h
  exact .base (.ins h1 gl.clB gl.isfB.ha gl.isfB.hn gl.isfB.htk gl.isfB.hm)
theorem kit_self {K : PySem.W.Frag} {t : Value} (h : (t == t) = true) : PySem.W.kitOne K t t = some true := by unfold PySem.W.kitOne; rw [if_pos h]
theorem dw_isi [o : On G X lv] {cv : V} {t u : Value} {k : Bool} (ha : DW G X a r d) (hb : PE X b (tC cv)) (ht : ClsD G d t) (hc : ClsV cv u) (hk : PySem.W.kitOne G.K t u = some k) (hg : Gl X "isinstance" := by rfl) (hs : starEach [a, b] X.env = (false, eval a X.env) :: starEach [b] X.env := by rfl) (hs2 : starEach [b] X.env = [(false, eval b X.env)] := by rfl)
    (hpl : (backTo pos (starEach [b] X.env)).any (·.1) = false := by rfl) : DW G X (.Call (.Name "isinstance" p) [a, b] [] pos) r (.dat (.bool k)) := by
  obtain ⟨⟨CT, CB, rfl⟩, _, _, _, gl⟩ := o
  refine lift (pe_callB call_isi hg gl.isinstance PyProof.Rows.boot_isinstance (pa_cons ha (pa_cons hb pa_nil hs2) hs) (by decide) (by decide) hs hpl) fun σ H Q ⟨O, f, q⟩ => ⟨O, f, fun v H1 g1 r1 => ?_⟩
  exact ⟨v, cv, t, u, k, rfl, hc, ht H1 v r1, hk, q _ H1 g1 (.bl _)⟩
theorem pe_tyn [o : On G X lv] {x : Str} {T : String} (hm : X.mg x = none) (hv : bootBuiltins x = some (.type T) := by rfl) (hg : Gl X x := by rfl) (hn : x ≠ "__name__" := by decide) (hd : (x == ("__debug__" : Str)) = false := by decide) : PE X (.Name x pos) (tC (.ty T)) := pe_bltn hg hm hv rfl hn hd
theorem dw_isiInt [o : On G X lv] {i : Int} (ha : DW G X a r (.dat (.int i))) (hg : Gl X "isinstance" := by rfl) (hg2 : Gl X "int" := by rfl) (hs : starEach [a, .Name "int" p2] X.env = (false, eval a X.env) :: starEach [.Name "int" p2] X.env := by rfl) : DW G X (.Call (.Name "isinstance" p) [a, .Name "int" p2] [] pos) r (.dat (.bool true)) := by
  have gl := o.gl
  have hm : X.mg "int" = none := by obtain ⟨⟨CT, CB, rfl⟩, _⟩ := o; exact gl.int
  exact dw_isi ha (pe_tyn (G := G) (T := "int") hm rfl hg2) cls_int (.ty _) (kit_ty (by decide +kernel)) hg hs
theorem dw_isiBool [o : On G X lv] {i : Int} (ha : DW G X a r (.dat (.int i))) (hg : Gl X "isinstance" := by rfl) (hg2 : Gl X "bool" := by rfl) (hs : starEach [a, .Name "bool" p2] X.env = (false, eval a X.env) :: starEach [.Name "bool" p2] X.env := by rfl) : DW G X (.Call (.Name "isinstance" p) [a, .Name "bool" p2] [] pos) r (.dat (.bool false)) := by
  have gl := o.gl
  have hm : X.mg "bool" = none := by obtain ⟨⟨CT, CB, rfl⟩, _⟩ := o; exact gl.bool
  exact dw_isi ha (pe_tyn (G := G) (T := "bool") hm rfl hg2) cls_int (.ty _) (kit_ty (by decide +kernel)) hg hs
theorem dw_isiTup [o : On G X lv] (ha : DW G X a r (.dat (.tuple ds))) (hg : Gl X "isinstance" := by rfl) (hg2 : Gl X "tuple" := by rfl) (hs : starEach [a, .Name "tuple" p2] X.env = (false, eval a X.env) :: starEach [.Name "tuple" p2] X.env := by rfl) : DW G X (.Call (.Name "isinstance" p) [a, .Name "tuple" p2] [] pos) r (.dat (.bool true)) := by
  have gl := o.gl
  have hm : X.mg "tuple" = none := by obtain ⟨⟨CT, CB, rfl⟩, _⟩ := o; exact gl.tuple
  exact dw_isi ha (pe_tyn (G := G) (T := "tuple") hm rfl hg2) cls_tup (.ty _) (kit_ty (by decide +kernel)) hg hs
theorem dw_isiTable [o : On G X lv] {rows : List Row} (ha : DW G X a r (.tab rows)) (hg : Gl X "isinstance" := by rfl) (hg2 : Gl X "Table" := by rfl) (hs : starEach [a, .Name "Table" p2] X.env = (false, eval a X.env) :: starEach [.Name "Table" p2] X.env := by rfl) : DW G X (.Call (.Name "isinstance" p) [a, .Name "Table" p2] [] pos) r (.dat (.bool true)) := by
  have gl := o.gl
  have hm : X.mg "Table" = some (.ref G.CT) := by obtain ⟨⟨CT, CB, rfl⟩, _⟩ := o; exact gl.table
  exact dw_isi ha (pe_glob (v := .ref G.CT) hg2 hm rfl) (cls_tab gl) (.own _) (kit_self (by simp)) hg hs
theorem dw_isiBound [o : On G X lv] {ts : List PyData} (ha : DW G X a r (.bnd ts)) (hg : Gl X "isinstance" := by rfl) (hg2 : Gl X "Bound" := by rfl) (hs : starEach [a, .Name "Bound" p2] X.env = (false, eval a X.env) :: starEach [.Name "Bound" p2] X.env := by rfl) : DW G X (.Call (.Name "isinstance" p) [a, .Name "Bound" p2] [] pos) r (.dat (.bool true)) := by
  have gl := o.gl
  have hm : X.mg "Bound" = some (.ref G.CB) := by obtain ⟨⟨CT, CB, rfl⟩, _⟩ := o; exact gl.bound
  exact dw_isi ha (pe_glob (v := .ref G.CB) hg2 hm rfl) (cls_bnd gl) (.own _) (kit_self (by simp)) hg hs
/-- isinstance(e, (list, tuple)) of a list -/
theorem dw_isiLT [o : On G X lv] {k : Nat} {tpos q1 q2 : Pos} (ha : DW G X a r (.dat (.list ds))) (hg : Gl X "isinstance" := by rfl) (hg2 : Gl X "list" := by rfl) (hg3 : Gl X "tuple" := by rfl)
    (hs : starEach [a, .Tuple [.Name "list" q1, .Name "tuple" q2] k tpos] X.env = (false, eval a X.env) :: starEach [.Tuple [.Name "list" q1, .Name "tuple" q2] k tpos] X.env := by rfl) (hs2 : starEach [.Tuple [.Name "list" q1, .Name "tuple" q2] k tpos] X.env = [(false, eval (.Tuple [.Name "list" q1, .Name "tuple" q2] k tpos) X.env)] := by rfl)
    (hs3 : starEach [.Name "list" q1, .Name "tuple" q2] X.env = (false, eval (.Name "list" q1) X.env) :: starEach [.Name "tuple" q2] X.env := by rfl) (hs4 : starEach [.Name "tuple" q2] X.env = [(false, eval (.Name "tuple" q2) X.env)] := by rfl)
    (hpl : (backTo pos (starEach [.Tuple [.Name "list" q1, .Name "tuple" q2] k tpos] X.env)).any (·.1) = false := by rfl) :
    DW G X (.Call (.Name "isinstance" p) [a, .Tuple [.Name "list" q1, .Name "tuple" q2] k tpos] [] pos) r (.dat (.bool true)) := by
  obtain ⟨⟨CT, CB, rfl⟩, _, _, _, gl⟩ := o
  have P1 : PE X (.Name "list" q1) (tC (.ty "list")) := pe_bltn hg2 gl.list (show bootBuiltins "list" = some (.type "list") from rfl) rfl
  have P2 : PE X (.Name "tuple" q2) (tC (.ty "tuple")) := pe_bltn hg3 gl.tuple (show bootBuiltins "tuple" = some (.type "tuple") from rfl) rfl
  refine lift (pe_callB call_isiT hg gl.isinstance PyProof.Rows.boot_isinstance (pa_cons ha (pa_cons (pe_tup (pa_cons P1 (pa_cons P2 pa_nil hs4) hs3)) pa_nil hs2) hs) (by decide) (by decide) hs hpl) fun σ H Q ⟨O, f, q⟩ => ⟨O, f, fun v H1 g1 r1 => ?_⟩
  obtain ⟨l, xs, rfl, h1, _⟩ := dp_lst r1
  refine ⟨by show 2 ≤ sizeLine; rw [sizeLine_eq]; decide, fun T hT => ?_⟩
  have g2 := g1.trans (Gr.new (o := .tup [.ty "list", .ty "tuple"]) hT)
  exact ⟨.ref l, T, [.ty "list", .ty "tuple"], .type "list", [.type "list", .type "tuple"], true, rfl, upd_same, .cons (.ty _) (.cons (.ty _) .nil), tyX_lst ((Gr.new hT).sqL h1), kitAny_cons (b := true) (kit_ty (by decide +kernel)) (fun z => by cases z) (fun _ => rfl), q _ _ g2 (.bl _)⟩

/-! ### properties, own == -/
structure DefP (G : Gx) (k : Nat) (f : Str) (R : List XD → XD → Prop) : Prop where
  ok : ∃ (pa g : Addr) (fd : FuncData) (ps : List Str), FnOk G.P G.w G.K G.mg G.base CX0 k g fd ps (spR G R) ∧ PropOf G.K G.CT f pa g ∧ Binds G.K fd ps []
theorem dw_propT [o : On G X lv] {k : Nat} {f : Str} {R : List XD → XD → Prop} {rows : List Row} (F : DefP G k f R) (ha : DW G X a r (.tab rows)) (hR : R [.tab rows] d) (hk : k + 1 ≤ lv := by decide) (hb : attributeBase a f X.env (eval a X.env) = eval a X.env := by rfl) : DW G X (.Attribute a f pos) r d := by
  obtain ⟨⟨CT, CB, rfl⟩, _, hr, _, gl⟩ := o
  obtain ⟨pa, g, fd, ps, F1, hp, hbi⟩ := F.ok
  refine lift (pe_prop ha gl.clT hp F1 (hr.mono hk) hbi .nil pass0 hb) fun σ H Q ⟨O, f, q⟩ => ⟨O, f, fun v H1 g1 r1 => ?_⟩
  obtain ⟨l, dx, t, rfl, h1, _⟩ := id r1
  exact ⟨l, dx, _, rfl, h1, [.tab rows], d, .cons r1 .nil, hR, fun v H2 g2 r2 => q v H2 (g1.trans g2) r2⟩
theorem relV_ni {v : V} (h : RelV v .notImplemented) : False := by
  cases v with
  | int i => obtain ⟨t, e⟩ := h; cases e
  | str i => obtain ⟨t, e⟩ := h; cases e
  | byt i => obtain ⟨t, e⟩ := h; cases e
  | flt i => obtain ⟨t, e⟩ := h; cases e
  | _ => cases h
/-- x == y, both of one class with its own == -/
def rEqO (C : Addr) (sp : Sp) (E : XK) : R2 := fun x y H Q => ∃ a b dx dy fs gs, x = .ref a ∧ y = .ref b ∧ H a = some (.ins C dx fs) ∧ H b = some (.ins C dy gs) ∧ sp [.ref a, .ref b] H Q E
theorem op_eqO {CX : CXT} {C f : Addr} {fd : FuncData} {ps : List Str} {sp : Sp} {E : XK} {n : Nat} (F : FnOk X.prog X.w X.K X.mg X.base CX n f fd ps sp)
    (hs : PySem.W.findIn X.K (.ref C) "__eq__" = some (some (.ref f))) (hf : PySem.W.isFn X.K (.ref f) = true) (hb : Binds X.K fd ps []) (hx : Passes CX X E) (hr : Room n X.A) : OpR X (compareOp .Eq) (rEqO C sp E) := by
  intro pins s σ H x y u v Q I rx ry d
  obtain ⟨a, b, dx, dy, fs, gs, rfl, rfl, ha, hb', hsp⟩ := d
  cases rx
  cases ry
  obtain ⟨mA, J, _⟩ := ins_get I.hok ha
  obtain ⟨mB, J', _⟩ := ins_get I.hok hb'
  obtain ⟨od, J, _⟩ := J.look
  obtain ⟨od', J', _⟩ := J'.look
  obtain ⟨m, hF⟩ := I.fr
  refine PySem.W.cmp_K (op := .Eq) (tb := .ref C) hr.units0 hF I.ok.mod.kin J J'.type (by simp [PySem.W.notFirst]) hs hf ?_
  have hl := F.len _ _ _ _ hsp
  have r2 : Vals [V.ref a, V.ref b] [Value.ref a, Value.ref b] := .cons rfl (.cons rfl .nil)
  refine wpAny_call (codeAny_mono (F.run X.A X.stack s H ⟨[.ref a, .ref b], []⟩ [.ref a, .ref b] [.ref a, .ref b] _ E hr I.env0 (by
    have := hb s [.ref a, .ref b] I.kIn (by simpa using hl)
    simpa using this) r2 hsp) fun r s' hq => ?_)
  cases r with
  | error e => exact hx pins σ H s e s' I hq
  | ok fl =>
    cases fl with
    | ret w =>
      obtain ⟨z, H', I', rz, q⟩ := I.after hq
      have fin : EP X pins σ Q w s' := ⟨z, H', I', rz, q⟩
      cases w with
      | notImplemented => exact (relV_ni rz).elim
      | _ => exact fin
    | next => exact False.elim hq
    | brk => exact False.elim hq
    | cont => exact False.elim hq
structure DefEq (G : Gx) (k : Nat) (R : List XD → XD → Prop) : Prop where
  ok : ∃ (f : Addr) (fd : FuncData) (ps : List Str), FnOk G.P G.w G.K G.mg G.base CX0 k f fd ps (spR G R) ∧ PySem.W.findIn G.K (.ref G.CB) "__eq__" = some (some (.ref f)) ∧ PySem.W.isFn G.K (.ref f) = true ∧ Binds G.K fd ps []
theorem r2_eqO {CT CB : Addr} {E : XK} {xs ys : List PyData} {R : List XD → XD → Prop} (hR : R [.bnd xs, .bnd ys] d) : R2D ⟨X.prog, X.w, X.K, X.mg, X.base, CT, CB⟩ (rEqO CB (spR ⟨X.prog, X.w, X.K, X.mg, X.base, CT, CB⟩ R) E) (.bnd xs) (.bnd ys) d := fun H x y hx hy Q k => by
  obtain ⟨l, dx, t, zs, rfl, h1, _⟩ := id hx
  obtain ⟨l2, dx2, t2, zs2, rfl, h2, _⟩ := id hy
  exact ⟨l, l2, dx, dx2, _, _, rfl, rfl, h1, h2, [.bnd xs, .bnd ys], d, .cons hx (.cons hy .nil), hR, fun v H' g q => k v H' g q⟩
theorem dw_eqO [o : On G X lv] {k : Nat} {R : List XD → XD → Prop} {xs ys : List PyData} (F : DefEq G k R) (ha : DW G X a r (.bnd xs)) (hb : DW G X b r (.bnd ys)) (hR : R [.bnd xs, .bnd ys] d) (hk : k ≤ lv := by decide) : DW G X (.Compare a [.Eq] [b] pos) r d := by
  obtain ⟨⟨CT, CB, rfl⟩, _, hr, _, gl⟩ := o
  obtain ⟨f, fd, ps, F1, h1, h2, h3⟩ := F.ok
  exact dw_cmp (op_eqO (E := E0) F1 h1 h2 h3 pass0 (hr.mono hk)) ha hb (r2_eqO hR) (nomark _)

end
end RC

/-! RcR: dicts of one's own: writing, two-clause dict comprehensions. -/
namespace RC
open PySem PySem.Spec PyProof.Rows L2
open PySem.W (Datum DatumOrd Tup T3 Holds HoldAll minOf maxOf EachIs listLt)

/-! ### one entry written -/
def putN (kvs : List (NestedKey × Int)) (k : NestedKey) (n : Int) : List (NestedKey × Int) :=
  if (dlook kvs k).isSome then kvs.map (fun p => if p.1 = k then (p.1, n) else p) else kvs ++ [(k, n)]
section
variable {K : PySem.W.Frag} {H : Hp}
theorem ent_gr {H' : Hp} (e : Gr H H') {kv : NestedKey × Int} {x : DEnt} (h : EntOk K H kv x) : EntOk K H' kv x := by
  obtain ⟨h1, ⟨d, h2, h3, h4, h5⟩, h6⟩ := h
  exact ⟨h1, ⟨d, h2, h3, h4, dp_gr e d _ h5⟩, h6⟩
theorem dlook_none : ∀ {kvs : List (NestedKey × Int)} {xs : List DEnt} {k : NestedKey}, Paired (EntOk K H) kvs xs → ((atKey xs k).isSome = (dlook kvs k).isSome)
  | _, _, _, .nil => rfl
  | _, _, k, .cons (a := kv) (b := x) p t => by
    have ih := dlook_none (k := k) t
    obtain ⟨e1, _⟩ := p
    unfold dlook atKey at *
    by_cases hk : kv.1 = k
    · rw [List.find?_cons_of_pos (by simpa using e1.trans hk), List.find?_cons_of_pos (by simpa using hk)]
      rfl
    · rw [List.find?_cons_of_neg (by simpa using fun e => hk (e1.symm.trans e)), List.find?_cons_of_neg (by simpa using hk)]
      exact ih
theorem paired_app {α β : Type} {R : α → β → Prop} : ∀ {xs : List α} {ys : List β} {us : List α} {vs : List β}, Paired R xs ys → Paired R us vs → Paired R (xs ++ us) (ys ++ vs)
  | _, _, _, _, .nil, h => h
  | _, _, _, _, .cons p t, h => .cons p (paired_app t h)
theorem paired_put {k : NestedKey} {n : Int} {t : Tok} : ∀ {kvs : List (NestedKey × Int)} {xs : List DEnt}, Paired (EntOk K H) kvs xs → Paired (EntOk K H) (kvs.map fun p => if p.1 = k then (p.1, n) else p) (xs.map (putAt k (.int n t)))
  | _, _, .nil => .nil
  | _, _, .cons (a := kv) (b := x) p r => by
    refine .cons ?_ (paired_put r)
    obtain ⟨e1, e2, e3⟩ := p
    show EntOk K H (if kv.1 = k then (kv.1, n) else kv) (if x.1 = k then (x.1, x.2.1, Value.int n t) else x)
    by_cases h : kv.1 = k
    · rw [if_pos h, if_pos (e1.trans h)]
      exact ⟨e1, e2, t, rfl⟩
    · rw [if_neg h, if_neg fun e => h (e1.symm.trans e)]
      exact ⟨e1, e2, e3⟩
theorem ent_put {kvs : List (NestedKey × Int)} {xs : List DEnt} {d : PyData} {a : Addr} {n : Int} {t : Tok} (h : Paired (EntOk K H) kvs xs) (hk : ky d = true) (hd : (kd d).depth ≤ 8) (hy : Dp K H (.ref a) d) : Paired (EntOk K H) (putN kvs (kd d) n) (storedH xs (kd d) a (.int n t)) := by
  unfold putN storedH
  rw [dlook_none (k := kd d) h]
  split
  · exact paired_put h
  · exact paired_app h (.cons ⟨rfl, ⟨d, hk, rfl, hd, hy⟩, t, rfl⟩ .nil)
theorem putN_len (kvs : List (NestedKey × Int)) (k : NestedKey) (n : Int) : (putN kvs k n).length ≤ kvs.length + 1 := by
  unfold putN
  split
  · rw [List.length_map]; omega
  · simp
end
section
variable {X : Cx} {pins : List (Addr × Obj)} {σ : L2.St} {H H0 : Hp} {s : Shared}
theorem dobj_new {P : Program} {w : World} {h : Heap} {a : Addr} {xs : List DEnt} (hs : (a == sysModules) = false) (x : h.DictOfH (nestedKind P w) a xs) : ObjOk P w H h a (DO P w a xs) := by
  obtain ⟨o, es, ep, h1, h2, h3, h4, _, h5⟩ := x
  exact ⟨⟨hs, o, es, ep, h1, h2, h3, h4, h5⟩, ⟨o, h1⟩, fun g1 g2 ⟨k1, o', es', ep', k2, k3⟩ k => ⟨k1, o', es', ep', k _ k2, k3⟩⟩
/-- what a write wants of the surroundings -/
theorem dset_inv {D : Addr} {xs xs' : List DEnt} {h' : Heap} {t' : Nat} (I : Inv X pins σ H s) (hD : H D = some (DO X.prog X.w D xs)) (hm : h'.DictOfH (nestedKind X.prog X.w) D xs') (sb : Heap.SameBut D s.heap h') : Inv X pins σ (upd H D (DO X.prog X.w D xs')) { s with heap := h', toks := t' } := by
  obtain ⟨⟨hs, _⟩, _⟩ := (show ObjOk X.prog X.w H s.heap D (DO X.prog X.w D xs) from I.hok D _ hD)
  have he : ∃ u, h'.get? D = some u := by obtain ⟨o, _, _, h1, _⟩ := hm; exact ⟨o, h1⟩
  exact I.write (by rw [hD]; trivial) (.inl rfl) (fun b u hb q => (sb.2 b hb).trans q) he (dobj_new hs hm)
theorem dictSet_own {E : Value → Shared → Prop} {D a : Addr} {xs : List DEnt} {kvs : List (NestedKey × Int)} {d : PyData} {n : Int} {t : Tok} {Q : Unit → Shared → Prop} (hu : X.A.units + 20 < cLine) (I : Inv X pins σ H s) (hD : H D = some (DO X.prog X.w D xs)) (g : Gr H0 H) (hk : Paired (EntOk X.K H0) kvs xs)
    (hky : ky d = true) (hd : (kd d).depth ≤ 8) (hy : Dp X.K H0 (.ref a) d) (hz : kvs.length ≤ 100000) (h : ∀ s' xs', Inv X pins σ (upd H D (DO X.prog X.w D xs')) s' → Paired (EntOk X.K H0) (putN kvs (kd d) n) xs' → Q () s') : wpAny (model X.prog X.w) X.A (dictSet D (.ref a) (.int n t)) Q E s := by
  have hm := dict_of I hD (Paired.mapP hk fun _ _ q => ent_gr g q)
  have hN := nested_of I d (.ref a) (.ref a) hky (dp_gr g _ _ hy) rfl
  have hl : xs.length ≤ sizeLine := by rw [← Paired.length hk]; exact size100 hz
  refine wpAny_dictSet_heap (knd := nestedKind X.prog X.w) (hsz := hl) (by show X.A.units + 8 < cLine; omega) ⟨hN, hd⟩ hm fun h' hm' sb => ?_
  exact h _ _ (dset_inv I hD hm' sb) (ent_put hk hky hd hy)
theorem setItem_own {E : Value → Shared → Prop} {D a : Addr} {xs : List DEnt} {kvs : List (NestedKey × Int)} {d : PyData} {n : Int} {t : Tok} {Q : Unit → Shared → Prop} (hu : X.A.units + 20 < cLine) (I : Inv X pins σ H s) (hD : H D = some (DO X.prog X.w D xs)) (g : Gr H0 H) (hk : Paired (EntOk X.K H0) kvs xs)
    (hky : ky d = true) (hd : (kd d).depth ≤ 8) (hy : Dp X.K H0 (.ref a) d) (hz : kvs.length ≤ 100000) (h : ∀ s' xs', Inv X pins σ (upd H D (DO X.prog X.w D xs')) s' → Paired (EntOk X.K H0) (putN kvs (kd d) n) xs' → Q () s') : wpAny (model X.prog X.w) X.A (setItem (.ref D) (.ref a) (.int n t)) Q E s := by
  have hm := dict_of I hD (Paired.mapP hk fun _ _ q => ent_gr g q)
  have hN := nested_of I d (.ref a) (.ref a) hky (dp_gr g _ _ hy) rfl
  have hl : xs.length ≤ sizeLine := by rw [← Paired.length hk]; exact size100 hz
  refine wpAny_setItem_heap (knd := nestedKind X.prog X.w) (hsz := hl) (by show X.A.units + 1 + 8 < cLine; omega) ⟨hN, hd⟩ hm fun h' hm' sb => ?_
  exact h _ _ (dset_inv I hD hm' sb) (ent_put hk hky hd hy)
end

/-! ### x[k] = e, x a dict of one's own -/
section
variable {G : Gx} {X : Cx} {lv : Nat} {r : DEnv} {e a b c : Expr} {es : List Expr} {pos p p2 kp pos' : Pos} {α : Type} [DecidableEq α] [Datum α] [Ky α]
mutual
theorem ky_im : ∀ d : PyData, ky d = true → im d = true
  | .int _, _ => rfl
  | .tuple xs, h => by
    simp only [ky] at h
    simp only [im]
    exact kys_im xs h
  | .none, h => by simp [ky] at h
  | .bool _, h => by simp [ky] at h
  | .str _, h => by simp [ky] at h
  | .list _, h => by simp [ky] at h
  | .dict _, h => by simp [ky] at h
theorem kys_im : ∀ ds : List PyData, kys ds = true → ims ds = true
  | [], _ => rfl
  | d :: ds, h => by
    simp only [kys, Bool.and_eq_true] at h
    simp only [ims, Bool.and_eq_true]
    exact ⟨ky_im d h.1, kys_im ds h.2⟩
end
theorem tup_ref {K : PySem.W.Frag} {H : Hp} {v : V} {d : PyData} (h : Dp K H v d) (ht : ∃ ds, d = .tuple ds) : ∃ q, v = .ref q := by
  obtain ⟨ds, rfl⟩ := ht
  obtain ⟨q, _, rfl, _⟩ := dp_tup h
  exact ⟨q, rfl⟩
theorem dk_put {kvs : List (α × Int)} {k : α} {n : Int} (h : look kvs k = none) : putN (dk kvs) (nk k) n = dk (kvs ++ [(k, n)]) := by
  unfold putN
  rw [dlook_dk, h]
  simp [dk]
/-- x[k] = e, the key new -/
theorem ds_dput [on : On G X lv] (i : Nat) {x : Str} {kvs : List (α × Int)} {k : α} {n : Int} (hs : r.sl[i]? = some (some (.ownD (dk kvs))) := by rfl) (hb : DW G X b r (D k)) (he : DW G X e r (.dat (.int n))) (hnew : look kvs k = none) (hz : kvs.length < 100000) (ht : ∃ ds, toD k = .tuple ds := by exact ⟨_, rfl⟩) (hd : Datum.depth α ≤ 8 := by decide)
    (hN : X.N[i]? = some x := by rfl) (hv : Vis X.env.scope x := by first | exact Or.inl rfl | exact Or.inr (Or.inl rfl)) (hdb : (x == ("__debug__" : Str)) = false := by decide) (hcd : (x == ("__classdict__" : Str)) = false := by decide)
    (hsw : swapsWith e (some (.Subscript (.Name x p) b pos')) pos.line X.env = pure false := by rfl) :
    DS G X (.Assign [.Subscript (.Name x p) b pos'] e pos) r (.nx (r.putS i (.ownD (dk (kvs ++ [(k, n)]))))) := fun B => by
  have hu := on_units0 (G := G) (X := X) (n := 60) (by decide)
  obtain ⟨⟨CT, CB, rfl⟩, _⟩ := on
  refine ⟨fun pins s σ H D I ⟨⟨gB, O, f, hO⟩, kk⟩ => ?_⟩
  refine wpAny_Assign_Subscript (thn (he.run pins s σ H (fun v H1 => v = .int n ∧ Gr H H1) I ⟨O, f, fun v H1 g1 r1 => ⟨dp_int r1, g1⟩⟩) fun u1 s1 ⟨v, H1, I1, rv, ev, g1⟩ =>
    thn ((pe_var (pos := p) hN hv hdb hcd).run pins s1 σ H1 (fun y H2 => H2 = H1 ∧ σ[i]? = some (some y)) I1 (by
      obtain ⟨y, ey, _⟩ := f.at_ i _ hs
      exact ⟨y, ey, rfl, ey⟩)) fun u s2 ⟨y, H2, I2, ry, eh, ey⟩ => ?_) hsw
  subst ev eh
  have f1 := f.gr g1
  obtain ⟨y', ey', l, xs, rfl, hl, hH, hent⟩ := f1.at_ i _ hs
  rw [ey] at ey'
  cases ey'
  cases ry
  obtain ⟨t, rfl⟩ := rv
  refine thn (hb.run pins s2 σ H2 (fun w H3 => Gr H2 H3 ∧ Rep ⟨X.prog, X.w, X.K, X.mg, X.base, CT, CB⟩ H3 w (RC.D k)) I2 ⟨O, f1, fun w H3 g3 r3 => ⟨g3, r3⟩⟩) fun iv s3 ⟨w, H3, I3, rw', g3, r3⟩ => ?_
  have f3 := f1.gr g3
  obtain ⟨q, rfl⟩ := tup_ref (d := toD k) r3 ht
  cases rw'
  have hky : ky (toD k) = true := Ky.key k
  have hdep : (kd (toD k)).depth ≤ 8 := by
    rw [kd_depth _ hky]
    exact Nat.le_trans (Datum.depth_le k) hd
  have hy : Dp X.K (hid O H3) (.ref q) (toD k) := dp_tk f3.tk _ _ (ky_im _ hky) r3
  refine setItem_own (H0 := hid O H3) (by omega) I3 (g3 _ _ hH) (hid_le O H3) (Paired.mapP hent fun _ _ z => ent_gr (hid_gr g3) z) hky hdep hy (by unfold dk; rw [List.length_map]; omega) fun s' xs' I' h' => ?_
  have e2 : putN (dk kvs) (kd (toD k)) n = dk (kvs ++ [(k, n)]) := dk_put hnew
  rw [e2] at h'
  refine ⟨σ, _, I', kk _ _ ⟨gr_mut ((gB.trans g1).trans g3) (hO l hl), O, f3.mut hl trivial ey hs rfl rfl ⟨l, xs', rfl, hl, upd_same, ?_⟩, hO⟩⟩
  rw [hid_upd hl]
  exact h'
end
end RC

/-! RcS: two-clause dict comprehensions. -/
namespace RC
open PySem PySem.Spec PyProof.Rows L2
open PySem.W (Datum DatumOrd Tup T3 Holds HoldAll minOf maxOf EachIs listLt)
theorem dcTurn2_out (kx vx t0 i0 t1 i1 : Expr) (ifs0 ifs1 : List Expr) (scope : Scope) (pos : Pos) (it acc : Value) (env : Env) :
    compTurn (.DictComp kx vx [⟨t0, i0, ifs0, 0⟩, ⟨t1, i1, ifs1, 0⟩] scope pos) 0 it acc env = (do
      standAt i0.pos
      match ← pyNext it with
      | none => pure (.done .next)
      | some v =>
        letOwnedTupleGo t0 it v
        assign t0 env v
        let mut ok := true
        for c in ifs0 do
          if ok then ok ← isTrue c env (eval c env)
        if ok then
          let x ← eval i1 env
          standAt i1.pos
          let x ← foldedSetIterable i1 env x
          let _ ← runOwn (.compStart (.DictComp kx vx [⟨t0, i0, ifs0, 0⟩, ⟨t1, i1, ifs1, 0⟩] scope pos) 1 (← holding [x] (pyIter x)) acc env) env
        again (.compLoop (.DictComp kx vx [⟨t0, i0, ifs0, 0⟩, ⟨t1, i1, ifs1, 0⟩] scope pos) 0 it acc env)) := by rfl
theorem dcTurn2_in (kx vx t0 i0 t1 i1 : Expr) (ifs0 ifs1 : List Expr) (scope : Scope) (pos : Pos) (it : Value) (D : Addr) (env : Env) :
    compTurn (.DictComp kx vx [⟨t0, i0, ifs0, 0⟩, ⟨t1, i1, ifs1, 0⟩] scope pos) 1 it (.ref D) env = (do
      standAt i1.pos
      match ← pyNext it with
      | none => pure (.done .next)
      | some v =>
        letOwnedTupleGo t1 it v
        assign t1 env v
        let mut ok := true
        for c in ifs1 do
          if ok then ok ← isTrue c env (eval c env)
        if ok then
          (do
            let kv ← eval kx env
            let vv ← holding [kv] (eval vx env)
            standAt { kx.pos with endLine := vx.pos.endLine, endCol := vx.pos.endCol }
            holding [kv, vv] (dictSet D kv vv))
        again (.compLoop (.DictComp kx vx [⟨t0, i0, ifs0, 0⟩, ⟨t1, i1, ifs1, 0⟩] scope pos) 1 it (.ref D) env)) := by rfl
section
variable {prog : Program} {w : World} {A : Around} {R : Result → Shared → Prop} {s : Shared} {kx vx t0 i0 t1 i1 : Expr} {ifs0 ifs1 : List Expr} {scope : Scope} {pos : Pos} {it acc : Value} {D : Addr} {env : Env}
theorem dcLoop2_out (hs : ∀ x, foldedSetIterable i1 env x = pure x) (I : Nat → Shared → Prop)
    (turn : ∀ n s, I n s → wpAny (model prog w) A (pyNext it) (fun r s₁ => match r with
      | none => R (.ok .next) s₁
      | some v => wpAny (model prog w) A (letOwnedTupleGo t0 it v) (fun _ s₁' => wpAny (model prog w) A (assign t0 env v) (fun _ s₂ =>
          wpAny (model prog w) A (forIn ifs0 true fun c r => if r = true then do let ok ← isTrue c env (eval c env); pure (ForInStep.yield ok) else pure (ForInStep.yield r)) (fun ok s₃ =>
            if ok = true then wpAny (model prog w) A (eval i1 env) (fun x s₄ => wpAny (model prog w) A (pyIter x) (fun it1 s₅ =>
              codeAny (model prog w) A (.compStart (.DictComp kx vx [⟨t0, i0, ifs0, 0⟩, ⟨t1, i1, ifs1, 0⟩] scope pos) 1 it1 acc env) (fun r s' => match r with
                | .ok _ => ∃ m, m < n ∧ I m s'
                | .error _ => False) s₅) (notedBy (model prog w) A env fun e s' => R (.error e) s') s₄) (notedBy (model prog w) A env fun e s' => R (.error e) s') s₃
            else ∃ m, m < n ∧ I m s₃) (notedBy (model prog w) A env fun e s' => R (.error e) s') s₂) (notedBy (model prog w) A env fun e s' => R (.error e) s') s₁') (notedBy (model prog w) A env fun e s' => R (.error e) s') s₁) (notedBy (model prog w) A env fun e s' => R (.error e) s') s)
    (n : Nat) (h : I n s) :
    codeAny (model prog w) A (.compLoop (.DictComp kx vx [⟨t0, i0, ifs0, 0⟩, ⟨t1, i1, ifs1, 0⟩] scope pos) 0 it acc env) R s := by
  refine codeAny_loop rfl I (fun n s hI => ?_) n h
  show wpAny _ A ((compTurn (.DictComp kx vx [⟨t0, i0, ifs0, 0⟩, ⟨t1, i1, ifs1, 0⟩] scope pos) 0 it acc env).onRaise (fun x => do noteFrame x env; theTreesLotGoes x)) _ _ s
  refine wpAny_noted ?_
  rw [dcTurn2_out]
  refine wpAny_bind (wpAny_standAt (wpAny_bind (wpAny_mono (turn n s hI) (fun r s₁ h₁ => ?_) fun _ _ h' => h')))
  cases r with
  | none => exact wpAny_pure h₁
  | some v =>
    refine wpAny_bind (wpAny_mono h₁ (fun _ s₁' h₁' => ?_) fun _ _ h' => h')
    refine wpAny_bind (wpAny_mono h₁' (fun _ s₂ h₂ => wpAny_bind (wpAny_mono h₂ (fun ok s₃ h₃ => ?_) fun _ _ h' => h')) fun _ _ h' => h')
    cases ok with
    | false => exact wpAny_pure ⟨rfl, h₃⟩
    | true =>
      refine wpAny_bind (wpAny_mono h₃ (fun x s₄ h₄ => ?_) fun _ _ h' => h')
      refine wpAny_bind (wpAny_standAt (wpAny_bind (wpAny_of_eq (hs x) (wpAny_bind (wpAny_holding (wpAny_mono h₄ (fun it1 s₅ h₅ => ?_) fun _ _ h' => h'))))))
      refine wpAny_bind (wpAny_runOwn ?_)
      rw [Around.mark_none]
      refine codeAny_mono h₅ fun r s' hr => ?_
      cases r with
      | ok f =>
        first
          | exact wpAny_pure ⟨rfl, hr⟩
          | exact wpAny_bind (wpAny_pure (wpAny_pure ⟨rfl, hr⟩))
      | error e => exact hr.elim
theorem dcLoop2_in (I : Nat → Shared → Prop)
    (turn : ∀ n s, I n s → wpAny (model prog w) A (pyNext it) (fun r s₁ => match r with
      | none => R (.ok .next) s₁
      | some v => wpAny (model prog w) A (letOwnedTupleGo t1 it v) (fun _ s₁' => wpAny (model prog w) A (assign t1 env v) (fun _ s₂ =>
          wpAny (model prog w) A (forIn ifs1 true fun c r => if r = true then do let ok ← isTrue c env (eval c env); pure (ForInStep.yield ok) else pure (ForInStep.yield r)) (fun ok s₃ =>
            if ok = true then wpAny (model prog w) A (eval kx env) (fun kv s₄ => wpAny (model prog w) A (eval vx env) (fun vv s₅ =>
              wpAny (model prog w) A (dictSet D kv vv) (fun _ s₆ => ∃ m, m < n ∧ I m s₆) (notedBy (model prog w) A env fun e s' => R (.error e) s') s₅) (notedBy (model prog w) A env fun e s' => R (.error e) s') s₄) (notedBy (model prog w) A env fun e s' => R (.error e) s') s₃
            else ∃ m, m < n ∧ I m s₃) (notedBy (model prog w) A env fun e s' => R (.error e) s') s₂) (notedBy (model prog w) A env fun e s' => R (.error e) s') s₁') (notedBy (model prog w) A env fun e s' => R (.error e) s') s₁) (notedBy (model prog w) A env fun e s' => R (.error e) s') s)
    (n : Nat) (h : I n s) :
    codeAny (model prog w) A (.compLoop (.DictComp kx vx [⟨t0, i0, ifs0, 0⟩, ⟨t1, i1, ifs1, 0⟩] scope pos) 1 it (.ref D) env) R s := by
  refine codeAny_loop rfl I (fun n s hI => ?_) n h
  show wpAny _ A ((compTurn (.DictComp kx vx [⟨t0, i0, ifs0, 0⟩, ⟨t1, i1, ifs1, 0⟩] scope pos) 1 it (.ref D) env).onRaise (fun x => do noteFrame x env; theTreesLotGoes x)) _ _ s
  refine wpAny_noted ?_
  rw [dcTurn2_in]
  refine wpAny_bind (wpAny_standAt (wpAny_bind (wpAny_mono (turn n s hI) (fun r s₁ h₁ => ?_) fun _ _ h' => h')))
  cases r with
  | none => exact wpAny_pure h₁
  | some v =>
    refine wpAny_bind (wpAny_mono h₁ (fun _ s₁' h₁' => ?_) fun _ _ h' => h')
    refine wpAny_bind (wpAny_mono h₁' (fun _ s₂ h₂ => wpAny_bind (wpAny_mono h₂ (fun ok s₃ h₃ => ?_) fun _ _ h' => h')) fun _ _ h' => h')
    cases ok with
    | false => exact wpAny_pure ⟨rfl, h₃⟩
    | true =>
      exact wpAny_bind (wpAny_bind (wpAny_mono h₃ (fun kv s₄ h₄ => wpAny_bind (wpAny_holding (wpAny_mono h₄ (fun vv s₅ h₅ => wpAny_bind (wpAny_standAt (wpAny_holding (wpAny_mono h₅ (fun _ s₆ h₆ => wpAny_pure ⟨rfl, h₆⟩) fun _ _ h' => h')))) fun _ _ h' => h'))) fun _ _ h' => h'))
theorem dcStart1_ok (h0 : codeAny (model prog w) A (.compLoop (.DictComp kx vx [⟨t0, i0, ifs0, 0⟩, ⟨t1, i1, ifs1, 0⟩] scope pos) 1 it acc env) R s)
    (h : wpAny (model prog w) A (pyIter it) (fun it' s' => codeAny (model prog w) A (.compLoop (.DictComp kx vx [⟨t0, i0, ifs0, 0⟩, ⟨t1, i1, ifs1, 0⟩] scope pos) 1 it' acc env) R s')
      (notedBy (model prog w) A env fun x s' => R (.error x) s') s) :
    codeAny (model prog w) A (.compStart (.DictComp kx vx [⟨t0, i0, ifs0, 0⟩, ⟨t1, i1, ifs1, 0⟩] scope pos) 1 it acc env) R s := by
  refine codeAny_of_tree ?_
  show wpAny _ _ ((compStart (.DictComp kx vx [⟨t0, i0, ifs0, 0⟩, ⟨t1, i1, ifs1, 0⟩] scope pos) 1 it acc env).onRaise (fun x => do noteFrame x env; standAt theWindowsPlace)) _ _ s
  refine wpAny_notedAt ?_
  unfold compStart
  show wpAny _ _ (ask >>= _) _ _ s
  refine wpAny_bind (wpAny_askSetting (wpAny_ite ?_))
  split
  · first
      | exact wpAny_bind (wpAny_pure (wpAny_pure (And.intro rfl h0)))
      | exact wpAny_pure (And.intro rfl h0)
  · first
      | exact wpAny_bind (wpAny_rule (wpAny_bind (wpAny_standAt (wpAny_bind (wpAny_mono h (fun it' s' h' => wpAny_pure (And.intro rfl h')) fun _ _ x => x)))))
      | (refine wpAny_bind (wpAny_rule ?_); show wpAny _ _ (standAt i1.pos >>= _) _ _ s; exact wpAny_bind (wpAny_standAt (wpAny_bind (wpAny_mono h (fun it' s' h' => wpAny_pure (And.intro rfl h')) fun _ _ x => x))))
end
section
variable {X : Cx}
/-- one entry put into the dict at D -/
def putD (X : Cx) (D : Addr) (y z : V) (H : Hp) (Nx : Hp → Prop) : Prop := ∃ (a : Addr) (n : Int) (xs : List DEnt) (kvs : List (NestedKey × Int)) (d : PyData) (H0 : Hp), y = .ref a ∧ z = .int n ∧ H D = some (DO X.prog X.w D xs) ∧ Gr H0 H ∧ Paired (EntOk X.K H0) kvs xs ∧ ky d = true ∧ (kd d).depth ≤ 8 ∧ Dp X.K H0 (.ref a) d ∧ kvs.length ≤ 100000 ∧
  ∀ xs', Paired (EntOk X.K H0) (putN kvs (kd d) n) xs' → Nx (upd H D (DO X.prog X.w D xs'))
def tDc2 (X : Cx) (wi : TI) (g : TG) (tt : TT) (wi1 : TI) (g1 : TG) (tt1 : TT) (tk tv : TE) (vs vs1 : List Nat) : TE := fun σ H Q => wi σ H fun J H1 => ∀ D, H1 D = none → ∃ W : Nat → Nat → Hp → Prop, (∃ m, W 0 m (upd H1 D (DO X.prog X.w D []))) ∧ ∀ i m H, W i m H →
  (J.stop i H ∧ Q (.ref D) H) ∨ (J.go i H ∧ ∃ Nx : Hp → Prop, (∀ H', Nx H' → ∃ m', m' < m ∧ W (i + 1) m' H') ∧ ∀ x H', J.yld i H x H' → g x (wipe σ vs) H' fun σ2 H2 => wipe σ2 vs = wipe σ vs ∧ tt σ2 H2 fun b H3 =>
    if b = true then wi1 σ2 H3 fun J1 H4 => ∃ W1 : Nat → Nat → Hp → Prop, (∃ m, W1 0 m H4) ∧ ∀ j k H, W1 j k H →
      (J1.stop j H ∧ Nx H) ∨ (J1.go j H ∧ ∃ Nx1 : Hp → Prop, (∀ H', Nx1 H' → ∃ k', k' < k ∧ W1 (j + 1) k' H') ∧ ∀ x H', J1.yld j H x H' → g1 x (wipe σ2 vs1) H' fun σ3 H5 => wipe σ3 vs1 = wipe σ2 vs1 ∧ tt1 σ3 H5 fun b H6 =>
        if b = true then tk σ3 H6 fun y H7 => tv σ3 H7 fun z H8 => putD X D y z H8 Nx1 else Nx1 H6)
    else Nx H3)
theorem dc2_core0 {pins : List (Addr × Obj)} {s : Shared} {σ : L2.St} {H : Hp} {Q : VK} {kx vx tg iter tg1 iter1 : Expr} {ifs ifs1 : List Expr} {scope : Scope} {own : List (Str × Nat)} {vs1 : List Nat} {pos pos' : Pos} {wi wi1 : TI} {g g1 : TG} {tt tt1 : TT} {tk tv : TE} {use : Option (Value → Sem Unit)} {Qf : Value → Shared → Prop}
    (hu : X.A.units + 20 < cLine) (hc : X.calm = true) (hN : X.N.Nodup) (I : L2.Inv X pins σ H s) (hi : PI X tg iter wi) (ok : BlkOk X.N X.env.scope scope own) (hv : ∀ i ∈ vs1, i ∈ own.map (·.2))
    (hg : ∀ (s : Shared) (H : Hp) (C : Addr) (cl : List (Str × Addr)) (fp : List Addr), PG (X.blk s H scope (compEnvC scope cl C X.env) fp) tg g) (ht : ∀ (s : Shared) (H : Hp) (C : Addr) (cl : List (Str × Addr)) (fp : List Addr), PTs (X.blk s H scope (compEnvC scope cl C X.env) fp) ifs tt)
    (hk : ∀ (s : Shared) (H : Hp) (C : Addr) (cl : List (Str × Addr)) (fp : List Addr), PE (X.blk s H scope (compEnvC scope cl C X.env) fp) kx tk)
    (he : ∀ (s : Shared) (H : Hp) (C : Addr) (cl : List (Str × Addr)) (fp : List Addr), PE (X.blk s H scope (compEnvC scope cl C X.env) fp) vx tv) (hs : ∀ x, foldedSetIterable iter X.env x = pure x)
    (hi1 : ∀ (s : Shared) (H : Hp) (C : Addr) (cl : List (Str × Addr)) (fp : List Addr), PI (X.blk s H scope (compEnvC scope cl C X.env) fp) tg1 iter1 wi1)
    (hg1 : ∀ (s : Shared) (H : Hp) (C : Addr) (cl : List (Str × Addr)) (fp : List Addr), PG (X.blk s H scope (compEnvC scope cl C X.env) fp) tg1 g1)
    (ht1 : ∀ (s : Shared) (H : Hp) (C : Addr) (cl : List (Str × Addr)) (fp : List Addr), PTs (X.blk s H scope (compEnvC scope cl C X.env) fp) ifs1 tt1)
    (hs1 : ∀ env x, foldedSetIterable iter1 env x = pure x)
    (h : tDc2 X wi g tt wi1 g1 tt1 tk tv (own.map (·.2)) vs1 σ H Q)
    (hRR : ∀ D C s' m H', L2.Inv X pins σ H' s' → Q (.ref D) H' → s'.heap.Ns C m → FpOk X pins H' C → compPost (model X.prog X.w) X.A X.xe use Qf (.ref D) C (.ok .next) s') :
    wpAny (model X.prog X.w) X.A (comprehension (.DictComp kx vx [⟨tg, iter, ifs, 0⟩, ⟨tg1, iter1, ifs1, 0⟩] scope pos) scope X.env pos' newDict false (eval iter X.env) use) Qf X.xe s := by
  have hfree : ∀ y ∈ scope.names, y.2 = .free → ∃ c, X.env.cells.lookup y.1 = some c := fun y hy e => by
    rcases ok.free y hy e with k | k
    · exact I.ok.has _ (.inl k)
    · exact I.ok.has _ (.inr k)
  refine wpAny_comprehension_free (use := use) rfl hs (closure_ok hfree) ok.kind (fun y hy e => by rw [ok.uniq y hy, e])
    (thn (hi.run pins s σ H _ I h) fun xv s1 hx => thn hx fun itv s2 h2 => ?_)
  obtain ⟨it, fp, tn, J, H2, e, I2, T, st2, f2, q⟩ := h2
  subst e
  refine wpAny_newObj_type (newEnv_comp ?_)
  generalize hD : s2.heap.objs.size = D
  have hDn : H2 D = none := I2.hok.fresh (Nat.le_of_eq hD)
  obtain ⟨W, ⟨m0, w0⟩, turn⟩ := q D hDn
  generalize hs3 : ({ s2 with heap := s2.heap.push { cls := .type "dict", data := .dict #[] } } : Shared) = s3
  have I3 : L2.Inv X pins σ (upd H2 D (DO X.prog X.w D [])) s3 := by
    rw [← hs3]
    refine I2.laid (t' := s2.toks) (fun b o e => Heap.get?_push_of_some _ e) (Nat.le_of_eq hD) ?_
    rw [← hD]
    exact do_empty X.prog X.w s2.heap I2.big
  have h3 : s3.heap = s2.heap.push { cls := .type "dict", data := .dict #[] } := by rw [← hs3]
  have sz : ∀ b ∈ fp, b < s2.heap.objs.size := fun b hb => by
    obtain ⟨o, e, _⟩ := T.obj _ _ st2 b hb
    exact Heap.lt_size e
  have f3 : ∀ b ∈ fp, FpOk X pins (upd H2 D (DO X.prog X.w D [])) b ∧ b < s3.heap.objs.size := fun b hb => by
    have hlt := sz b hb
    refine ⟨⟨?_, (f2 b hb).2⟩, by rw [h3, Heap.size_push]; exact Nat.lt_succ_of_lt hlt⟩
    rw [upd_ne (by rw [← hD]; exact Nat.ne_of_lt hlt)]
    exact (f2 b hb).1
  have st3 : tn 0 s3.heap := T.keep _ _ _ st2 fun b _ o e => by rw [h3]; exact Heap.get?_push_of_some _ e
  have I4 := block_start I3 ok hN f3
  have pg := hg s3 (upd H2 D (DO X.prog X.w D [])) s3.heap.objs.size (cellsFrom (s3.heap.objs.size + 1) scope.names (cloFrom X.env.cells scope.names [])) fp
  have pt := ht s3 (upd H2 D (DO X.prog X.w D [])) s3.heap.objs.size (cellsFrom (s3.heap.objs.size + 1) scope.names (cloFrom X.env.cells scope.names [])) fp
  have pk := hk s3 (upd H2 D (DO X.prog X.w D [])) s3.heap.objs.size (cellsFrom (s3.heap.objs.size + 1) scope.names (cloFrom X.env.cells scope.names [])) fp
  have pe := he s3 (upd H2 D (DO X.prog X.w D [])) s3.heap.objs.size (cellsFrom (s3.heap.objs.size + 1) scope.names (cloFrom X.env.cells scope.names [])) fp
  have pi1 := hi1 s3 (upd H2 D (DO X.prog X.w D [])) s3.heap.objs.size (cellsFrom (s3.heap.objs.size + 1) scope.names (cloFrom X.env.cells scope.names [])) fp
  have pg1 := hg1 s3 (upd H2 D (DO X.prog X.w D [])) s3.heap.objs.size (cellsFrom (s3.heap.objs.size + 1) scope.names (cloFrom X.env.cells scope.names [])) fp
  have pt1 := ht1 s3 (upd H2 D (DO X.prog X.w D [])) s3.heap.objs.size (cellsFrom (s3.heap.objs.size + 1) scope.names (cloFrom X.env.cells scope.names [])) fp
  show codeAny _ _ (.compStart (.DictComp kx vx [⟨tg, iter, ifs, 0⟩, ⟨tg1, iter1, ifs1, 0⟩] scope pos) 0 (.ref it) (.ref D) (compEnvC scope (cellsFrom (s3.heap.objs.size + 1) scope.names (cloFrom X.env.cells scope.names [])) s3.heap.objs.size X.env)) (compPost (model X.prog X.w) X.A X.xe use Qf (.ref D) s3.heap.objs.size) { s3 with heap := pushCells (s3.heap.push { cls := .type "dict", data := .dict #[] }) scope.names }
  have nfp : ∀ b ∈ fp, (upd H2 D (DO X.prog X.w D [])) b = none := fun b hb => (f3 b hb).1.1
  generalize hce : compEnvC scope (cellsFrom (s3.heap.objs.size + 1) scope.names (cloFrom X.env.cells scope.names [])) s3.heap.objs.size X.env = ce at I4 pg pt pk pe pi1 pg1 pt1 ⊢
  have cL : ce.locals = s3.heap.objs.size := by subst hce; rfl
  generalize hH3 : upd H2 D (DO X.prog X.w D []) = H3 at I3 I4 pg pt pk pe pi1 pg1 pt1 w0 nfp f3
  generalize hs4 : ({ s3 with heap := pushCells (s3.heap.push { cls := .type "dict", data := .dict #[] }) scope.names } : Shared) = s4 at I4 ⊢
  have st4 : tn 0 s4.heap := T.keep _ _ _ st3 fun b _ o e => by rw [← hs4]; exact pushCells_keeps _ _ _ _ (Heap.get?_push_of_some _ e)
  have stat : ∀ {σ' : L2.St} {H' : Hp} {s' : Shared}, L2.Inv (X.blk s3 H3 scope ce fp) [] σ' H' s' → (∀ b ∈ fp, H' b = none) → ∀ b ∈ fp, FpOk (X.blk s3 H3 scope ce fp) [] H' b := fun {σ' H' s'} I' hn b hb =>
    ⟨hn b hb, (I'.ok.exf b hb).1, I'.ok.exfs b hb, .inl hb, fun x c e => (I'.ok.exf b hb).2 x c e, fun p hp => absurd (show p ∈ ([] : List (Addr × Obj)) ++ [] from hp) (by simp)⟩
  have loop : codeAny (model X.prog X.w) X.A (.compLoop (.DictComp kx vx [⟨tg, iter, ifs, 0⟩, ⟨tg1, iter1, ifs1, 0⟩] scope pos) 0 (.ref it) (.ref D) ce) (compPost (model X.prog X.w) X.A X.xe use Qf (.ref D) s3.heap.objs.size) s4 := by
    refine dcLoop2_out (hs1 ce) (fun n s' => ∃ i H', L2.Inv (X.blk s3 H3 scope ce fp) [] (wipe σ (own.map (·.2))) H' s' ∧ tn i s'.heap ∧ (∀ b ∈ fp, H' b = none) ∧ W i n H') ?_ m0 ⟨0, H3, I4, st4, nfp, w0⟩
    rintro n s5 ⟨i, H5, I5, st5, n5, w5⟩
    rcases turn i n H5 w5 with ⟨stop, qq⟩ | ⟨go, Nx, hNx, step⟩
    · have td := T.done (X.blk s3 H3 scope ce fp) rfl rfl rfl hc i [] s5 _ H5 (fun _ _ => False) I5 (stat I5 n5) st5 stop
      refine thnF td fun r s6 ⟨hr, I6⟩ => ?_
      subst hr
      have I7 : L2.Inv X pins σ H5 s6 := I3.call' (ch := fp) I6.os I6.base I6.hok I6.bare fun b hb => ⟨(f3 b hb).1.2.2.2.1, (f3 b hb).1.2.1, (f3 b hb).1.2.2.2.2.1, (f3 b hb).1.2.2.2.2.2⟩
      have nC : H5 s3.heap.objs.size = none := by
        have z : H5 ce.locals = none := I6.free
        rw [cL] at z
        exact z
      obtain ⟨m, hn, _⟩ := I6.loc
      have hn : s6.heap.Ns ce.locals m := hn
      rw [cL] at hn
      exact hRR D s3.heap.objs.size s6 m H5 I7 qq hn (I3.fpOk (Nat.le_refl _) nC)
    · have ti := T.item (X.blk s3 H3 scope ce fp) rfl rfl rfl hc i [] s5 _ H5 (fun _ _ => False) I5 (stat I5 n5) st5 go
      refine thnF ti fun r s6 ⟨u, hr, h6⟩ => ?_
      subst hr
      refine thnF h6 fun _ s7 ⟨x, H7, I7, r7, y7, st7, n7⟩ => ?_
      have I7' := I7.pinned (stat I7 n7) (T.obj _ _ st7)
      refine thnF (pg.run _ s7 _ H7 x u _ I7' r7 (step x H7 y7)) fun _ s8 ⟨σ8, H8, I8, hw8, q8⟩ => ?_
      refine thnF (pt.run _ s8 σ8 H8 _ I8 q8) fun b s9 ⟨H9, I9, q9⟩ => ?_
      have fin : ∀ {σ9 : L2.St} {s' : Shared} {H' : Hp}, L2.Inv (X.blk s3 H3 scope ce fp) ([] ++ pinsAt fp s7.heap) σ9 H' s' → (wipe σ (own.map (·.2))).length = σ9.length → (∀ (j : Nat) v, (wipe σ (own.map (·.2)))[j]? = some (some v) → σ9[j]? = some (some v)) → Nx H' →
          ∃ m, m < n ∧ ∃ i H', L2.Inv (X.blk s3 H3 scope ce fp) [] (wipe σ (own.map (·.2))) H' s' ∧ tn i s'.heap ∧ (∀ b ∈ fp, H' b = none) ∧ W i m H' := fun {σ9 s' H'} I' hl hk nx => by
        obtain ⟨m', hm, w'⟩ := hNx H' nx
        have pin' : ∀ b ∈ fp, ∀ o, s7.heap.get? b = some o → s'.heap.get? b = some o ∧ H' b = none := fun b hb o e =>
          let z := I'.pin (b, o) (List.mem_append_right _ (List.mem_append_right _ (mem_pinsAt hb e)))
          ⟨z.1, z.2.1⟩
        refine ⟨m', hm, i + 1, H', (I'.unpinned (pins := [])).weak hl hk, T.keep _ _ _ st7 fun b hb o e => (pin' b hb o e).1, fun b hb => ?_, w'⟩
        obtain ⟨o, e, _⟩ := T.obj _ _ st7 b hb
        exact (pin' b hb o e).2
      have hl8 : (wipe σ (own.map (·.2))).length = σ8.length := by rw [← hw8, wipe_length]
      have hk8 : ∀ (j : Nat) v, (wipe σ (own.map (·.2)))[j]? = some (some v) → σ8[j]? = some (some v) := fun j v e => by
        rw [← hw8] at e
        exact (wipe_some e).1
      have hk9 : ∀ (j : Nat) v, (wipe σ (own.map (·.2)))[j]? = some (some v) → (wipe σ8 vs1)[j]? = some (some v) := fun j v e => by
        rw [← hw8] at e
        obtain ⟨e1, e2⟩ := wipe_some e
        rw [wipe_out fun z => e2 (hv j z)]
        exact e1
      cases b with
      | false =>
        simp only [Bool.false_eq_true, if_false] at q9 ⊢
        exact fin I9 hl8 hk8 q9
      | true =>
        simp only [if_true] at q9 ⊢
        refine thnF (pi1.run _ s9 σ8 H9 _ I9 q9) fun xv s10 hx => thnF hx fun itv s11 h11 => ?_
        obtain ⟨it1, fp1, tn1, J1, H11, e1, I11, T1, st11, f11, W1, ⟨m1, w1⟩, turn1⟩ := h11
        subst e1
        have stat1 : ∀ {H' : Hp}, (∀ b ∈ fp1, H' b = none) → ∀ b ∈ fp1, FpOk (X.blk s3 H3 scope ce fp) ([] ++ pinsAt fp s7.heap) H' b := fun hn b hb => ⟨hn b hb, (f11 b hb).2⟩
        have loop1 : codeAny (model X.prog X.w) X.A (.compLoop (.DictComp kx vx [⟨tg, iter, ifs, 0⟩, ⟨tg1, iter1, ifs1, 0⟩] scope pos) 1 (.ref it1) (.ref D) ce)
            (fun r s' => match r with
              | .ok _ => ∃ m, m < n ∧ ∃ i H', L2.Inv (X.blk s3 H3 scope ce fp) [] (wipe σ (own.map (·.2))) H' s' ∧ tn i s'.heap ∧ (∀ b ∈ fp, H' b = none) ∧ W i m H'
              | .error _ => False) s11 := by
          refine dcLoop2_in (fun k s' => ∃ j H', L2.Inv (X.blk s3 H3 scope ce fp) ([] ++ pinsAt fp s7.heap) (wipe σ8 vs1) H' s' ∧ tn1 j s'.heap ∧ (∀ b ∈ fp1, H' b = none) ∧ W1 j k H') ?_ m1 ⟨0, H11, I11.weak (wipe_length _ _) (fun j v e => (wipe_some e).1), st11, fun b hb => (f11 b hb).1, w1⟩
          rintro k s12 ⟨j, H12, I12, st12, n12, w12⟩
          rcases turn1 j k H12 w12 with ⟨stop1, nx1⟩ | ⟨go1, Nx1, hNx1, step1⟩
          · refine thnF (T1.done (X.blk s3 H3 scope ce fp) rfl rfl rfl hc j _ s12 (wipe σ8 vs1) H12 (fun _ _ => False) I12 (stat1 n12) st12 stop1) fun r s13 ⟨hr, I13⟩ => ?_
            subst hr
            exact fin I13 (hl8.trans (wipe_length σ8 vs1).symm) hk9 nx1
          · refine thnF (T1.item (X.blk s3 H3 scope ce fp) rfl rfl rfl hc j _ s12 (wipe σ8 vs1) H12 (fun _ _ => False) I12 (stat1 n12) st12 go1) fun r s13 ⟨u1, hr, h13⟩ => ?_
            subst hr
            refine thnF h13 fun _ s14 ⟨x1, H14, I14, r14, y14, st14, n14⟩ => ?_
            have I14' := I14.pinned (stat1 n14) (T1.obj _ _ st14)
            refine thnF (pg1.run _ s14 (wipe σ8 vs1) H14 x1 u1 _ I14' r14 (step1 x1 H14 y14)) fun _ s15 ⟨σ15, H15, I15, hw15, q15⟩ => ?_
            refine thnF (pt1.run _ s15 σ15 H15 _ I15 q15) fun b1 s16 ⟨H16, I16, q16⟩ => ?_
            have fin1 : ∀ {s' : Shared} {H' : Hp}, L2.Inv (X.blk s3 H3 scope ce fp) (([] ++ pinsAt fp s7.heap) ++ pinsAt fp1 s14.heap) σ15 H' s' → Nx1 H' → ∃ m, m < k ∧ ∃ j H', L2.Inv (X.blk s3 H3 scope ce fp) ([] ++ pinsAt fp s7.heap) (wipe σ8 vs1) H' s' ∧ tn1 j s'.heap ∧ (∀ b ∈ fp1, H' b = none) ∧ W1 j m H' := fun {s' H'} I' nx => by
              obtain ⟨m', hm, w'⟩ := hNx1 H' nx
              have pin' : ∀ b ∈ fp1, ∀ o, s14.heap.get? b = some o → s'.heap.get? b = some o ∧ H' b = none := fun b hb o e =>
                let z := I'.pin (b, o) (List.mem_append_right _ (List.mem_append_right _ (mem_pinsAt hb e)))
                ⟨z.1, z.2.1⟩
              refine ⟨m', hm, j + 1, H', I'.unpinned.weak (by rw [← hw15, wipe_length]) (fun j v e => by rw [← hw15] at e; exact (wipe_some e).1), T1.keep _ _ _ st14 fun b hb o e => (pin' b hb o e).1, fun b hb => ?_, w'⟩
              obtain ⟨o, e, _⟩ := T1.obj _ _ st14 b hb
              exact (pin' b hb o e).2
            cases b1 with
            | false =>
              simp only [Bool.false_eq_true, if_false] at q16 ⊢
              exact fin1 I16 q16
            | true =>
              simp only [if_true] at q16 ⊢
              refine thnF (pk.run _ s16 σ15 H16 _ I16 q16) fun z s17 ⟨yk, H17, I17, r17, q17⟩ => ?_
              refine thnF (pe.run _ s17 σ15 H17 _ I17 q17) fun z2 s18 ⟨yv, H18, I18, r18, a, n', xs, kvs, d, H0, ek, ev, hD18, g0, pr, hky, hdep, hdp, hz18, nx⟩ => ?_
              subst ek ev
              cases r17
              obtain ⟨t', rfl⟩ := r18
              exact dictSet_own (X := X.blk s3 H3 scope ce fp) hu I18 hD18 g0 pr hky hdep hdp hz18 fun s19 xs' I19 p19 => fin1 I19 (nx xs' p19)
        exact dcStart1_ok loop1 (T1.self X.A 0 _ _ _ st11 loop1)
  exact codeAny_compStart_dict loop (T.self X.A 0 _ _ _ st4 loop)
theorem pe_dc2 {kx vx tg iter tg1 iter1 : Expr} {ifs ifs1 : List Expr} {scope : Scope} {own : List (Str × Nat)} {vs1 : List Nat} {pos : Pos} {wi wi1 : TI} {g g1 : TG} {tt tt1 : TT} {tk tv : TE} (hu : X.A.units + 20 < cLine) (hc : X.calm = true) (hN : X.N.Nodup) (hi : PI X tg iter wi) (ok : BlkOk X.N X.env.scope scope own) (hv : ∀ i ∈ vs1, i ∈ own.map (·.2))
    (hg : ∀ (s : Shared) (H : Hp) (C : Addr) (cl : List (Str × Addr)) (fp : List Addr), PG (X.blk s H scope (compEnvC scope cl C X.env) fp) tg g) (ht : ∀ (s : Shared) (H : Hp) (C : Addr) (cl : List (Str × Addr)) (fp : List Addr), PTs (X.blk s H scope (compEnvC scope cl C X.env) fp) ifs tt)
    (hi1 : ∀ (s : Shared) (H : Hp) (C : Addr) (cl : List (Str × Addr)) (fp : List Addr), PI (X.blk s H scope (compEnvC scope cl C X.env) fp) tg1 iter1 wi1)
    (hg1 : ∀ (s : Shared) (H : Hp) (C : Addr) (cl : List (Str × Addr)) (fp : List Addr), PG (X.blk s H scope (compEnvC scope cl C X.env) fp) tg1 g1) (ht1 : ∀ (s : Shared) (H : Hp) (C : Addr) (cl : List (Str × Addr)) (fp : List Addr), PTs (X.blk s H scope (compEnvC scope cl C X.env) fp) ifs1 tt1)
    (hk : ∀ (s : Shared) (H : Hp) (C : Addr) (cl : List (Str × Addr)) (fp : List Addr), PE (X.blk s H scope (compEnvC scope cl C X.env) fp) kx tk)
    (he : ∀ (s : Shared) (H : Hp) (C : Addr) (cl : List (Str × Addr)) (fp : List Addr), PE (X.blk s H scope (compEnvC scope cl C X.env) fp) vx tv) (hs : ∀ x, foldedSetIterable iter X.env x = pure x := by intro _; rfl) (hs1 : ∀ env x, foldedSetIterable iter1 env x = pure x := by intro _ _; rfl) :
    PE X (.DictComp kx vx [⟨tg, iter, ifs, 0⟩, ⟨tg1, iter1, ifs1, 0⟩] scope pos) (tDc2 X wi g tt wi1 g1 tt1 tk tv (own.map (·.2)) vs1) := by
  refine ⟨fun pins s σ H Q I h => ?_⟩
  rw [arm_eval_DictComp]
  refine dc2_core0 hu hc hN I hi ok hv hg ht hk he hs hi1 hg1 ht1 hs1 h fun D C s' m H' I' q hn f => ⟨m, hn, fun h'' sb => ?_⟩
  obtain ⟨f0, f1, f2, f3, f4, f5⟩ := f
  exact ⟨.ref D, H', I'.turned (t' := s'.toks) (fun b o hb e => (sb.2 b hb).trans e) f0 f1 f3 f4 f5, rfl, q⟩
end
end RC

/-! RcT: two-clause dict comprehensions, by data. -/
namespace RC
open PySem PySem.Spec PyProof.Rows L2
open PySem.W (Datum DatumOrd Tup T3 Holds HoldAll minOf maxOf EachIs listLt)
section
variable {G : Gx} {X : Cx} {lv : Nat} {r : DEnv} {a b c kx vx tg iter tg1 iter1 : Expr} {ifs1 : List Expr} {scope : Scope} {own : List (Str × Nat)} {pos p : Pos} {α β κ : Type} [DecidableEq κ] [Datum κ] [Ky κ]
structure In2K (α β κ : Type) where
  ys : α → List β
  en1 : β → XD
  pr : α → β → Bool
  k : α → β → κ
  n : α → β → Int
def In2K.part (q : In2K α β κ) (x : α) (ys : List β) : List (κ × Int) := (ys.filter (q.pr x)).map fun y => (q.k x y, q.n x y)
def In2K.out (q : In2K α β κ) (x : α) : List (κ × Int) := q.part x (q.ys x)
def AccK (X : Cx) (H1 : Hp) (D : Addr) (kvs : List (κ × Int)) (H2 : Hp) : Prop := Gr H1 (hid [D] H2) ∧ ∃ xs, H2 D = some (DO X.prog X.w D xs) ∧ Paired (EntOk X.K (hid [D] H2)) (dk kvs) xs
theorem AccK.gr {H1 H2 H3 : Hp} {D : Addr} {kvs : List (κ × Int)} (h : AccK X H1 D kvs H2) (g : Gr H2 H3) : AccK X H1 D kvs H3 := by
  obtain ⟨g1, xs, h1, h2⟩ := h
  exact ⟨g1.trans (hid_gr g), xs, g _ _ h1, Paired.mapP h2 fun _ _ q => ent_gr (hid_gr g) q⟩
theorem look_none {kvs : List (κ × Int)} {k : κ} (h : k ∉ kvs.map (·.1)) : look kvs k = none := by
  unfold look
  rw [Option.map_eq_none_iff, List.find?_eq_none]
  intro p hp e
  exact h (List.mem_map.mpr ⟨p, hp, by simpa using e⟩)
theorem dw_dc2 [o : On G X lv] {t t1 : Tg} (xs : List α) (en : α → XD) (q : In2K α β κ) (vs1 : List Nat) (hi : DI G X tg iter r (xs.map en)) (ok : BlkOk X.N X.env.scope scope own) (hv : ∀ i, i ∈ t.slots → i ∈ own.map (·.2)) (hv1 : ∀ i, i ∈ t1.slots → i ∈ vs1) (hvv : ∀ i ∈ vs1, i ∈ own.map (·.2))
    (hg : ∀ s H C cl fp, PG (Blk X scope s H C cl fp) tg (tgR X.K t)) (hg1 : ∀ s H C cl fp, PG (Blk X scope s H C cl fp) tg1 (tgR X.K t1))
    (hi1 : ∀ s H C cl fp x, x ∈ xs → DI G (Blk X scope s H C cl fp) tg1 iter1 (bindE (r.wipe (own.map (·.2))) t (en x)).shut ((q.ys x).map q.en1))
    (ht1 : ∀ s H C cl fp x y, x ∈ xs → y ∈ q.ys x → PTs (Blk X scope s H C cl fp) ifs1 (tT G (bindE ((bindE (r.wipe (own.map (·.2))) t (en x)).wipe vs1) t1 (q.en1 y)).shut (q.pr x y)))
    (hk : ∀ s H C cl fp x y, x ∈ xs → y ∈ q.ys x → q.pr x y = true → DW G (Blk X scope s H C cl fp) kx (bindE ((bindE (r.wipe (own.map (·.2))) t (en x)).wipe vs1) t1 (q.en1 y)).shut (D (q.k x y)))
    (he : ∀ s H C cl fp x y, x ∈ xs → y ∈ q.ys x → q.pr x y = true → DW G (Blk X scope s H C cl fp) vx (bindE ((bindE (r.wipe (own.map (·.2))) t (en x)).wipe vs1) t1 (q.en1 y)).shut (.dat (.int (q.n x y))))
    (hm : ∀ x, x ∈ xs → tgOk t (en x)) (hm1 : ∀ x y, x ∈ xs → y ∈ q.ys x → tgOk t1 (q.en1 y)) (hnd : ((xs.flatMap q.out).map (·.1)).Nodup) (hz : (xs.flatMap q.out).length ≤ 100000) (htup : ∀ k : κ, ∃ ds, toD k = .tuple ds := by exact fun _ => ⟨_, rfl⟩) (hd : Datum.depth κ ≤ 8 := by decide)
    (hs : ∀ x, foldedSetIterable iter X.env x = pure x := by intro _; rfl) (hs1 : ∀ env x, foldedSetIterable iter1 env x = pure x := by intro _ _; rfl) :
    DW G X (.DictComp kx vx [⟨tg, iter, [], 0⟩, ⟨tg1, iter1, ifs1, 0⟩] scope pos) r (Dd (xs.flatMap q.out)) := by
  have hu := on_units0 (G := G) (X := X) (n := 60) (by decide)
  generalize hvs : own.map (·.2) = vs at hv hvv hi1 ht1 hk he
  obtain ⟨⟨CT, CB, rfl⟩, hc, _, nd, gl⟩ := o
  let wi1 : TI := fun σ H R => ∃ x, x ∈ xs ∧ tI ⟨X.prog, X.w, X.K, X.mg, X.base, CT, CB⟩ (bindE (r.wipe vs) t (en x)).shut ((q.ys x).map q.en1) σ H R
  let tt : TT := fun σ H Q => ∃ x y, x ∈ xs ∧ y ∈ q.ys x ∧ tT ⟨X.prog, X.w, X.K, X.mg, X.base, CT, CB⟩ (bindE ((bindE (r.wipe vs) t (en x)).wipe vs1) t1 (q.en1 y)).shut (q.pr x y) σ H Q
  let tk : TE := fun σ H Q => ∃ x y, x ∈ xs ∧ y ∈ q.ys x ∧ q.pr x y = true ∧ tW ⟨X.prog, X.w, X.K, X.mg, X.base, CT, CB⟩ (bindE ((bindE (r.wipe vs) t (en x)).wipe vs1) t1 (q.en1 y)).shut (D (q.k x y)) σ H Q
  let te : TE := fun σ H Q => ∃ x y, x ∈ xs ∧ y ∈ q.ys x ∧ q.pr x y = true ∧ tW ⟨X.prog, X.w, X.K, X.mg, X.base, CT, CB⟩ (bindE ((bindE (r.wipe vs) t (en x)).wipe vs1) t1 (q.en1 y)).shut (.dat (.int (q.n x y))) σ H Q
  have hi' : ∀ s H C cl fp, PI (Blk X scope s H C cl fp) tg1 iter1 wi1 := fun s H C cl fp => ⟨fun pins s' σ H' R I ⟨x, hx, z⟩ => (hi1 s H C cl fp x hx).run pins s' σ H' R I z⟩
  have ht' : ∀ s H C cl fp, PTs (Blk X scope s H C cl fp) ifs1 tt := fun s H C cl fp => ⟨fun pins s' σ H' Q I ⟨x, y, hx, hy, z⟩ => (ht1 s H C cl fp x y hx hy).run pins s' σ H' Q I z⟩
  have hk' : ∀ s H C cl fp, PE (Blk X scope s H C cl fp) kx tk := fun s H C cl fp => ⟨fun pins s' σ H' Q I ⟨x, y, hx, hy, hp, z⟩ => (hk s H C cl fp x y hx hy hp).run pins s' σ H' Q I z⟩
  have he' : ∀ s H C cl fp, PE (Blk X scope s H C cl fp) vx te := fun s H C cl fp => ⟨fun pins s' σ H' Q I ⟨x, y, hx, hy, hp, z⟩ => (he s H C cl fp x y hx hy hp).run pins s' σ H' Q I z⟩
  refine lift (pe_dc2 (by omega) hc nd hi ok (by rw [hvs]; exact hvv) hg (fun _ _ _ _ _ => pts_nil) hi' hg1 ht' hk' he' hs hs1) ?_
  rw [hvs]
  intro σ H Q ⟨O, fit, kont⟩
  refine ⟨O, fit, fun J H1 g1 w => fun D hD => ?_⟩
  rw [List.length_map] at w
  have g0 : Gr H1 (hid [D] (upd H1 D (DO X.prog X.w D []))) := by
    rw [hid_upd (by simp)]
    intro b ob hb
    have nb : b ≠ D := fun z => by rw [z, hD] at hb; cases hb
    rw [hid_out (by simp [nb])]
    exact hb
  refine ⟨fun i m H2 => m = xs.length - i ∧ i ≤ xs.length ∧ AccK X H1 D ((xs.take i).flatMap q.out) H2, ⟨xs.length, by simp, Nat.zero_le _, g0, [], upd_same, .nil⟩, ?_⟩
  rintro i m H2 ⟨rfl, hi, p⟩
  have gH : Gr H1 H2 := p.1.trans (hid_le _ _)
  have gw : Gr (hid O H1) H2 := (hid_le _ _).trans gH
  by_cases hlt : i < xs.length
  · refine .inr ⟨w.goes i H2 hlt gw, fun H3 => AccK X H1 D ((xs.take (i + 1)).flatMap q.out) H3, fun H' p' => ⟨xs.length - (i + 1), by omega, rfl, hlt, p'⟩, fun v H3 yl => ?_⟩
    obtain ⟨g3, d, hdd, hp⟩ := w.yields i H2 v H3 hlt gw yl
    obtain ⟨x, hx, rfl⟩ : ∃ x, xs[i]? = some x ∧ en x = d := by
      rw [List.getElem?_map] at hdd
      cases e : xs[i]? with
      | none => rw [e] at hdd; cases hdd
      | some x => rw [e] at hdd; exact ⟨x, rfl, Option.some.inj hdd⟩
    have hmem := List.mem_of_getElem? hx
    have p3 := p.gr g3
    have et : xs.take (i + 1) = xs.take i ++ [x] := List.take_add_one.trans (by rw [hx]; rfl)
    have F3 : Fit ⟨X.prog, X.w, X.K, X.mg, X.base, CT, CB⟩ O (hid [D] H3) (L2.wipe σ vs) (r.wipe vs) := ((fit.gr g1).gr p3.1).wipe vs
    obtain ⟨ws3, hD3, _⟩ := p3.2
    have R3 : Rep ⟨X.prog, X.w, X.K, X.mg, X.base, CT, CB⟩ (hid O (hid [D] H3)) v (en x) := by
      rcases hp with hp | ⟨i1, hp⟩
      · exact rep_gr (hid_gr p3.1) hp
      · rw [hid_hid]
        exact rep_tk (F3.reveal hD3 trivial).tk i1 hp
    refine tgR_go2 (G := ⟨X.prog, X.w, X.K, X.mg, X.base, CT, CB⟩) (hid_le [D] H3) F3 R3 (hm x hmem) fun σ2 F4 hw => ⟨?_, ?_⟩
    · rw [hw _ hv]
      exact wipe_wipe fun u hu => hu
    · simp only [tYes, if_true]
      refine ⟨x, hmem, D :: O, F4.reveal hD3 trivial, fun J1 H4 g4 w1 => ?_⟩
      rw [List.length_map] at w1
      have F4' := F4.gr (hid_gr (O := [D]) g4)
      have esplit : xs.flatMap q.out = (xs.take i).flatMap q.out ++ (q.out x ++ (xs.drop (i + 1)).flatMap q.out) := by
        conv => lhs; rw [← List.take_append_drop (i + 1) xs, et]
        simp
      refine ⟨fun j k H5 => k = (q.ys x).length - j ∧ j ≤ (q.ys x).length ∧ Gr (hid [D] H4) (hid [D] H5) ∧ AccK X H1 D ((xs.take i).flatMap q.out ++ q.part x ((q.ys x).take j)) H5,
        ⟨(q.ys x).length, by simp, Nat.zero_le _, Gr.refl _, by simpa [In2K.part] using p3.gr g4⟩, ?_⟩
      rintro j k5 H5 ⟨rfl, hj, g5, p5⟩
      have gw1 : Gr (hid (D :: O) H4) H5 := ((hid_less H4 (O := D :: O) (O' := [D]) (by simp)).trans g5).trans (hid_le _ _)
      by_cases hlt1 : j < (q.ys x).length
      · refine .inr ⟨w1.goes j H5 hlt1 gw1, fun H6 => Gr (hid [D] H4) (hid [D] H6) ∧ AccK X H1 D ((xs.take i).flatMap q.out ++ q.part x ((q.ys x).take (j + 1))) H6, fun H' p' => ⟨(q.ys x).length - (j + 1), by omega, rfl, hlt1, p'⟩, fun v1 H6 yl1 => ?_⟩
        obtain ⟨g6, d1, hd1, hp1⟩ := w1.yields j H5 v1 H6 hlt1 gw1 yl1
        obtain ⟨y, hy, rfl⟩ : ∃ y, (q.ys x)[j]? = some y ∧ q.en1 y = d1 := by
          rw [List.getElem?_map] at hd1
          cases e : (q.ys x)[j]? with
          | none => rw [e] at hd1; cases hd1
          | some y => rw [e] at hd1; exact ⟨y, rfl, Option.some.inj hd1⟩
        have hmem1 := List.mem_of_getElem? hy
        have et1 : (q.ys x).take (j + 1) = (q.ys x).take j ++ [y] := List.take_add_one.trans (by rw [hy]; rfl)
        have p6 := p5.gr g6
        obtain ⟨ws6, hD6, _⟩ := p6.2
        have F6 := (F4'.gr (g5.trans (hid_gr g6))).wipe vs1
        have R6 : Rep ⟨X.prog, X.w, X.K, X.mg, X.base, CT, CB⟩ (hid O (hid [D] H6)) v1 (q.en1 y) := by
          rw [hid_hid]
          rcases hp1 with hp | ⟨i1, hp⟩
          · exact rep_gr (gr_hid (gw1.trans g6)) hp
          · exact rep_tk (F6.reveal hD6 trivial).tk i1 hp
        refine tgR_go2 (G := ⟨X.prog, X.w, X.K, X.mg, X.base, CT, CB⟩) (hid_le [D] H6) F6 R6 (hm1 x y hmem hmem1) fun σ3 F7 hw1 => ⟨?_, ?_⟩
        · rw [hw1 _ hv1]
          exact wipe_wipe fun u hu => hu
        · refine ⟨x, y, hmem, hmem1, D :: O, F7.reveal hD6 trivial, fun H7 g7 => ?_⟩
          have p7 := p6.gr g7
          cases hb : q.pr x y with
          | true =>
            refine iteT ⟨x, y, hmem, hmem1, hb, D :: O, (F7.reveal hD6 trivial).gr g7, fun yk H8 g8 r8 => ⟨x, y, hmem, hmem1, hb, D :: O, ((F7.reveal hD6 trivial).gr g7).gr g8, fun z H9 g9 r9 => ?_⟩⟩
            have p9 := (p7.gr g8).gr g9
            obtain ⟨gg, xs9, hD9, hent⟩ := p9
            have tk9 : Tk H9 (hid [D] H9) := hid_tk fun b hb' => by
              rw [List.mem_singleton.mp hb']
              exact ⟨_, hD9, trivial⟩
            have hky : ky (toD (q.k x y)) = true := Ky.key _
            have hdep : (kd (toD (q.k x y))).depth ≤ 8 := by
              rw [kd_depth _ hky]
              exact Nat.le_trans (Datum.depth_le _) hd
            have r8' : Dp X.K H9 yk (toD (q.k x y)) := dp_gr g9 _ _ r8
            obtain ⟨ad, rfl⟩ := tup_ref r8' (htup _)
            have e9 : q.part x ((q.ys x).take (j + 1)) = q.part x ((q.ys x).take j) ++ [(q.k x y, q.n x y)] := by
              unfold In2K.part
              rw [et1, List.filter_append, List.map_append]
              simp [hb]
            have eall : xs.flatMap q.out = (xs.take i).flatMap q.out ++ (q.part x ((q.ys x).take j) ++ [(q.k x y, q.n x y)] ++ (q.part x ((q.ys x).drop (j + 1)) ++ (xs.drop (i + 1)).flatMap q.out)) := by
              rw [esplit, ← e9]
              unfold In2K.out
              conv => lhs; rw [← List.take_append_drop (j + 1) (q.ys x)]
              unfold In2K.part
              rw [List.filter_append, List.map_append]
              simp only [List.append_assoc]
            have hnew : look ((xs.take i).flatMap q.out ++ q.part x ((q.ys x).take j)) (q.k x y) = none := by
              refine look_none fun hm' => ?_
              rw [eall] at hnd
              simp only [List.map_append, List.append_assoc, List.map_cons, List.map_nil] at hnd hm'
              rw [← List.append_assoc] at hnd
              have := (List.nodup_append.mp hnd).2.2 (q.k x y) hm' (q.k x y) (by simp)
              exact this rfl
            refine ⟨ad, q.n x y, xs9, dk _, toD (q.k x y), hid [D] H9, rfl, dp_int r9, hD9, hid_le _ _, hent, hky, hdep, dp_tk tk9 _ _ (ky_im _ hky) r8', ?_, fun xs' h' => ?_⟩
            · have := congrArg List.length eall
              unfold dk
              rw [List.length_map]
              simp only [List.length_append] at this ⊢
              omega
            · have e2 : putN (dk ((xs.take i).flatMap q.out ++ q.part x ((q.ys x).take j))) (kd (toD (q.k x y))) (q.n x y) = dk ((xs.take i).flatMap q.out ++ q.part x ((q.ys x).take (j + 1))) := by
                rw [e9, ← List.append_assoc]
                exact dk_put hnew
              rw [e2] at h'
              refine ⟨?_, ?_, xs', upd_same, ?_⟩
              · rw [hid_upd (by simp)]
                exact g5.trans (hid_gr (((g6.trans g7).trans g8).trans g9))
              · rw [hid_upd (by simp)]
                exact gg
              · rw [hid_upd (by simp)]
                exact h'
          | false =>
            refine iteF ⟨g5.trans (hid_gr (g6.trans g7)), ?_⟩
            have e9 : q.part x ((q.ys x).take (j + 1)) = q.part x ((q.ys x).take j) := by
              unfold In2K.part
              rw [et1, List.filter_append, List.map_append]
              simp [hb]
            rw [e9]
            exact p7
      · have e : j = (q.ys x).length := by omega
        subst e
        refine .inl ⟨w1.stops H5 gw1, ?_⟩
        have e9 : (xs.take (i + 1)).flatMap q.out = (xs.take i).flatMap q.out ++ q.out x := by rw [et]; simp
        rw [List.take_length] at p5
        show AccK _ _ _ _ _
        rw [e9]
        exact p5
  · have e : i = xs.length := by omega
    subst e
    rw [List.take_length] at p
    obtain ⟨_, ws, h1, h3⟩ := p
    exact .inl ⟨w.stops H2 gw, kont _ H2 (g1.trans gH) ⟨D, ws, rfl, h1, Paired.mapP h3 fun _ _ z => ent_gr (hid_le _ _) z⟩⟩
end
end RC

/-! RcU: lists of Bounds; what is one's own is given up; tuples times a number; slices of tuples. -/
namespace RC
open PySem PySem.Spec PyProof.Rows L2
open PySem.W (Datum DatumOrd Tup T3 Holds HoldAll minOf maxOf EachIs listLt)
section
variable {G : Gx} {X : Cx} {lv : Nat} {r : DEnv} {e a b c : Expr} {es : List Expr} {pos p p2 kp : Pos} {ds : List PyData} {d : XD} {o : Out} {sts : List Stmt}
/-! ### what is one's own is given up -/
theorem slot_addr {O : List Addr} {H : Hp} {v : V} {s : Slot} (h : SlotOk G O H v s) (hs : isOwn s = true) : ∃ a, v = .ref a ∧ a ∈ O := by
  cases s with
  | x d => cases hs
  | own ds => obtain ⟨_, a, _, e, h, _⟩ := h; exact ⟨a, e, h⟩
  | ownD kvs => obtain ⟨a, _, e, h, _⟩ := h; exact ⟨a, e, h⟩
  | ownB bs => obtain ⟨a, _, e, h, _⟩ := h; exact ⟨a, e, h⟩
theorem Fit.freeze {O : List Addr} {H : Hp} {σ : L2.St} {i : Nat} {s : Slot} (f : Fit G O H σ r) (hi : r.sl[i]? = some (some s)) (hs : isOwn s = true) : ∃ O', (∀ a, a ∈ O' → a ∈ O) ∧ Fit G O' H σ (r.put i (.x (slotX s))) := by
  obtain ⟨v, ev, ok⟩ := f.at_ i s hi
  obtain ⟨q, rfl, hq⟩ := slot_addr ok hs
  refine ⟨O.filter fun a => decide (a ≠ q), fun a ha => (List.mem_filter.mp ha).1, ?_⟩
  have sub : ∀ a, a ∈ O.filter (fun a => decide (a ≠ q)) → a ∈ O := fun a ha => (List.mem_filter.mp ha).1
  have gh : Gr (hid O H) (hid (O.filter fun a => decide (a ≠ q)) H) := hid_less H sub
  have nq : q ∉ O.filter fun a => decide (a ≠ q) := fun z => by simpa using (List.mem_filter.mp z).2
  have keep : ∀ {j : Nat} {u : V} {t : Slot}, j ≠ i → r.sl[j]? = some (some t) → σ[j]? = some (some u) → SlotOk G O H u t → SlotOk G (O.filter fun a => decide (a ≠ q)) H u t := fun {j u t} nj hj hu h => by
    have inO : ∀ {a : Addr}, isOwn t = true → u = .ref a → a ∈ O → a ∈ O.filter fun a => decide (a ≠ q) := fun {a} ht e ha => List.mem_filter.mpr ⟨ha, by
      have : a ≠ q := fun z => f.dis j i _ _ hj hi ht hs nj (by rw [hu, ev, e, z])
      simpa using this⟩
    cases t with
    | x d => exact rep_gr gh h
    | own ds =>
      obtain ⟨h0, a, xs, rfl, h1, h2, h3⟩ := h
      exact ⟨h0, a, xs, rfl, inO rfl rfl h1, h2, dps_gr gh _ _ h3⟩
    | ownD kvs =>
      obtain ⟨a, xs, rfl, h1, h2, h3⟩ := h
      exact ⟨a, xs, rfl, inO rfl rfl h1, h2, Paired.mapP h3 fun _ _ q => entOk_gr gh q⟩
    | ownB bs =>
      obtain ⟨a, xs, rfl, h1, h2, h3⟩ := h
      exact ⟨a, xs, rfl, inO rfl rfl h1, h2, Paired.mapP h3 fun _ _ q => repB_gr gh q⟩
  have rep : Rep G (hid (O.filter fun a => decide (a ≠ q)) H) (.ref q) (slotX s) := by
    cases s with
    | x d => cases hs
    | own ds =>
      obtain ⟨h0, a, xs, e, h1, h2, h3⟩ := ok
      cases e
      exact .lst (.of ((hid_out nq).trans h2)) (dps_gr gh _ _ h3)
    | ownD kvs =>
      obtain ⟨a, xs, e, h1, h2, h3⟩ := ok
      cases e
      exact ⟨q, xs, rfl, (hid_out nq).trans h2, Paired.mapP h3 fun _ _ z => entOk_gr gh z⟩
    | ownB bs =>
      obtain ⟨a, xs, e, h1, h2, h3⟩ := ok
      cases e
      exact ⟨q, xs, rfl, (hid_out nq).trans h2, Paired.mapP h3 fun _ _ z => repB_gr gh z⟩
  refine ⟨?_, fun j t ht => ?_, fun j k s1 t h1 h2 o1 o2 ne => ?_, fun a ha => f.tr a (sub a ha), fun e => ?_⟩
  · show σ.length = (r.sl.set i _).length
    rw [List.length_set]
    exact f.len
  · rcases set_get (show (r.sl.set i (some (Slot.x (slotX s))))[j]? = some (some t) from ht) with ⟨rfl, e⟩ | ⟨n1, e⟩
    · cases e
      exact ⟨_, ev, rep⟩
    · obtain ⟨u, e1, z⟩ := f.at_ j t e
      exact ⟨u, e1, keep (Ne.symm n1) e e1 z⟩
  · rcases set_get (show (r.sl.set i (some (Slot.x (slotX s))))[j]? = some (some s1) from h1) with ⟨rfl, e⟩ | ⟨n1, e1⟩
    · cases e; cases o1
    · rcases set_get (show (r.sl.set i (some (Slot.x (slotX s))))[k]? = some (some t) from h2) with ⟨rfl, e⟩ | ⟨n2, e2⟩
      · cases e; cases o2
      · exact f.dis j k s1 t e1 e2 o1 o2 ne
  · have := f.pu e
    subst this
    rfl
theorem db_freeze (i : Nat) {s : Slot} (hi : r.sl[i]? = some (some s) := by rfl) (hs : isOwn s = true := by rfl) (h : DB G X sts (r.put i (.x (slotX s))) o) : DB G X sts r o := fun B =>
  liftSs (h B) fun D σ H ⟨⟨gB, O, f, hO⟩, k⟩ => by
    obtain ⟨O', sub, f'⟩ := f.freeze hi hs
    exact ⟨⟨gB, O', f', fun a ha => hO a (sub a ha)⟩, k⟩

/-! ### lists of Bounds -/
def tAB (G : Gx) (r : DEnv) (bs : List (List PyData)) : TA := fun σ H Q => ∃ O, Fit G O H σ r ∧ ∀ vs H', Gr H H' → Paired (fun v b => RepB G (hid O H') v b) vs bs → Q vs H'
abbrev DAB (G : Gx) (X : Cx) (es : List Expr) (r : DEnv) (bs : List (List PyData)) : Prop := PA X es (tAB G r bs)
theorem dab_nil : DAB G X [] r [] := liftA pa_nil fun σ H Q ⟨O, f, q⟩ => q [] H (Gr.refl H) .nil
theorem dab_cons {bs : List (List PyData)} {ts : List PyData} (h : DE G X e r (.bnd ts)) (t : DAB G X es r bs) (hs : starEach (e :: es) X.env = (false, eval e X.env) :: starEach es X.env := by rfl) : DAB G X (e :: es) r (ts :: bs) :=
  liftA (pa_cons h t hs) fun σ H Q ⟨O, f, q⟩ => ⟨O, f, fun x H1 g1 r1 => ⟨O, f.gr g1, fun xs H2 g2 r2 => q (x :: xs) H2 (g1.trans g2) (.cons (repB_gr (hid_gr g2) r1) r2)⟩⟩
theorem pv_bnds {bs : List (List PyData)} (h : DAB G X es r bs) (hl : bs.length ≤ 1000 := by decide) : PV G X (.List es pos) r (.ownB bs) :=
  lift (pe_lst h) fun σ H Q ⟨O, f, q⟩ => ⟨O, f, fun vs H1 g1 r1 => by
    refine ⟨by rw [Paired.length r1]; exact Nat.le_of_lt (small1000 hl), fun p hp => q (.ref p) _ (g1.trans (Gr.new hp)) ⟨p, vs, rfl, g1.back hp, upd_same, ?_⟩⟩
    rw [hid_cons_new hp]
    exact r1⟩
/-- x.append(e), x a list of Bounds -/
theorem ds_appendB [on : On G X lv] (i : Nat) {x : Str} {bs : List (List PyData)} {ts : List PyData} {apos epos : Pos} (hs : r.sl[i]? = some (some (.ownB bs)) := by rfl) (he : DE G X e r (.bnd ts)) (hz : bs.length < 1000 := by decide)
    (hN : X.N[i]? = some x := by rfl) (hv : Vis X.env.scope x := by first | exact Or.inl rfl | exact Or.inr (Or.inl rfl)) (hd : (x == ("__debug__" : Str)) = false := by decide) (hcd : (x == ("__classdict__" : Str)) = false := by decide)
    (pe : ∀ {to : TE} {t : TA}, PE X (.Name x p) to → PA X [e] t → PE X (.Call (.Attribute (.Name x p) "append" apos) [e] [] pos) (tBM X.K "list" rAppend to t) := by exact fun h1 h2 => pe_bm PySem.F.plainAttrs_list PySem.F.slot_list_append PySem.F.type_list_append mt_append h1 h2)
    (hsw : swapsWith (.Call (.Attribute (.Name x p) "append" apos) [e] [] pos) none epos.line X.env = pure false := by rfl) (hst : starEach [e] X.env = [(false, eval e X.env)] := by rfl) :
    DS G X (.Expr (.Call (.Attribute (.Name x p) "append" apos) [e] [] pos) epos) r (.nx (r.putS i (.ownB (bs ++ [ts])))) := fun B => by
  obtain ⟨⟨CT, CB, rfl⟩, _⟩ := on
  refine liftS (ps_expr (pe (pe_var hN hv hd hcd) (pa_cons he pa_nil hst)) hsw) fun D σ H ⟨⟨gB, O, f, hO⟩, k⟩ => ?_
  obtain ⟨v, ev, l, xs, rfl, hl, hH, hd0⟩ := f.at_ i _ hs
  refine ⟨.ref l, ev, .inl ⟨rfl, xs, .of hH⟩, O, f, fun y H1 g1 r1 => ?_⟩
  have f1 := f.gr g1
  refine ⟨l, xs, y, rfl, rfl, g1 _ _ hH, ?_, ?_⟩
  · have h1 := Paired.length hd0
    exact Nat.lt_of_lt_of_le (by omega : xs.length < 100000) (size100 (Nat.le_refl _))
  · refine k _ _ ⟨gr_mut (gB.trans g1) (hO l hl), O, f1.mut hl trivial ev hs rfl rfl ⟨l, _, rfl, hl, upd_same, ?_⟩, hO⟩
    rw [hid_upd hl]
    exact paired_app (Paired.mapP hd0 fun _ _ z => repB_gr (hid_gr g1) z) (.cons r1 .nil)

/-! ### tuples -/
theorem tuple_mul1 (l : Addr) (items : Array Value) (n : Nat) (dd : Option Addr) (sl : Array (Option Value)) (u : Tok) :
    Meets (Builtin.«tuple.__mul__» ⟨[.ref l, .int 1 u], []⟩) (fun _ R s => s.heap.get? l = some { cls := .type "tuple", dict := dd, data := .seq items n, slots := sl } ∧ R (.ok (.ret (Value.ref l))) s) :=
  .of_wp fun prog w A R s h => by
    obtain ⟨hp, g, d, tk, os⟩ := s
    obtain ⟨hl, h⟩ := h
    have f1 := AutoSeq1.idx_int
    wp_walk using wpAny_loadPart' hl
    exact ⟨_, rfl, h⟩
def rRep1 (K : PySem.W.Frag) : R2 := fun x y H Q => ∃ l xs, x = .ref l ∧ y = .int 1 ∧ SqT K H l xs ∧ Q (.ref l) H
theorem op_rep1 : OpR X (binaryOp .Mult) (rRep1 X.K) := by
  intro pins s σ H x y v u Q I rx ry h
  obtain ⟨l, xs, rfl, rfl, hT, q⟩ := h
  cases rx
  obtain ⟨t, rfl⟩ := ry
  obtain ⟨its, r, ⟨⟨cls, dd, data, sl⟩, ho, hc, n, hd⟩, hs⟩ := I.tuple hT
  simp only at hc hd
  subst hc hd
  refine wpAny_binaryOp_repeat_ref (T := "tuple") (U := "int") (by decide) ⟨_, ho, rfl⟩ (fun s' => typeIs_int s' 1 t) noFill_tuple_mul F.fills_int_mul F.slot_int_rmul repeat_tuple F.slot_int_index.lookup
    (call_meets F.slot_int_rmul (typeIs_int s 1 t) F.entry_int_rmul (F.args_int_rmul_2 _ _) (int_rmul_tuple 1 t l its.toArray n dd sl)
      ⟨ho, rfl, ⟨_, ho, rfl⟩, call_meets F.slot_tuple_mul ⟨_, ho, rfl⟩ F.entry_tuple_mul (F.args_tuple_mul_2 _ _) (tuple_mul1 l its.toArray n dd sl t) ⟨ho, ?_⟩⟩)
  exact ⟨.ref l, H, I, rfl, q⟩
/-- t * n, t a tuple of one -/
theorem dw_rep [o : On G X lv] {α : Type} [DecidableEq α] [Datum α] {x : α} {n : Int} (ha : DW G X a r (D (Tup.mk [x]))) (hb : DW G X b r (.dat (.int n))) (h1 : 1 ≤ n) (h2 : n ≤ 1000) : DW G X (.BinOp a .Mult b pos) r (D (Tup.mk (List.replicate n.toNat x))) := by
  obtain ⟨⟨CT, CB, rfl⟩, _⟩ := o
  by_cases e : n = 1
  · subst e
    refine dw_bin op_rep1 ha hb fun H v u hx hy Q k => ?_
    obtain ⟨l, xs, rfl, h3, h4⟩ := dp_tup hx
    exact ⟨l, xs, rfl, dp_int hy, h3, k _ H (Gr.refl H) hx⟩
  · refine dw_bin op_repT ha hb fun H v u hx hy Q k => ?_
    obtain ⟨l, xs, rfl, h3, h4⟩ := dp_tup hx
    have hl := dps_len h4
    have hl1 : xs.length = 1 := hl
    refine ⟨l, n, xs, rfl, dp_int hy, h3, fun z => (by rw [z] at hl1; simp at hl1), by omega, h2, by omega, fun p hp => k _ _ (Gr.new hp) (.tup (.of upd_same) ?_)⟩
    have hx0 : ∃ y, xs = [y] ∧ Dp X.K H y (toD x) := by
      cases h4 with
      | cons h5 h6 =>
        cases h6
        exact ⟨_, rfl, h5⟩
    obtain ⟨y, rfl, hy0⟩ := hx0
    have ef : ∀ m : Nat, (List.replicate m [y]).flatten = List.replicate m y := fun m => by
      induction m with
      | zero => rfl
      | succ m ih => rw [List.replicate_succ, List.flatten_cons, ih, List.replicate_succ]; rfl
    rw [ef]
    have er : (List.replicate n.toNat x).map Datum.toD = List.replicate n.toNat (toD x) := by simp
    rw [er]
    have := dp_gr (Gr.new (o := .tup (List.replicate n.toNat y)) hp) _ _ hy0
    refine dps_of (by simp) fun j v d e1 e2 => ?_
    rw [List.getElem?_replicate] at e1 e2
    split at e1
    · rename_i hjn
      rw [if_pos hjn] at e2
      cases e1
      cases e2
      exact this
    · cases e1
/-- t[n:] -/
theorem dw_dropT [o : On G X lv] {α : Type} [DecidableEq α] [Datum α] {xs : List α} {n : Nat} {j : Int} {p2 : Pos} (ha : DW G X a r (D (Tup.mk xs))) (hb : DW G X b r (.dat (.int j))) (hj : j = (n : Int)) : DW G X (.Subscript a (.Slice (some b) none none p2) pos) r (D (Tup.mk (xs.drop n))) := by
  obtain ⟨⟨CT, CB, rfl⟩, _⟩ := o
  subst hj
  refine lift (pe_slice sl_tupA ha (dpt_some hb) dpt_none) fun σ H Q ⟨O, f, q⟩ => ⟨O, f, fun x H1 g1 r1 => ⟨O, f.gr g1, fun H2 g2 => ⟨O, (f.gr g1).gr g2, fun H3 g3 => ?_⟩⟩⟩
  have hx : Dp X.K H3 x (.tuple (Ds xs)) := rep_gr (G := ⟨X.prog, X.w, X.K, X.mg, X.base, CT, CB⟩) (d := .dat (.tuple (Ds xs))) (g2.trans g3) r1
  obtain ⟨l', zs, rfl, h1, h2⟩ := dp_tup hx
  have hl := dps_len h2
  rw [List.length_map] at hl
  have ed : (Ds xs).drop n = Ds (xs.drop n) := List.map_drop.symm
  refine ⟨l', zs, rfl, h1, fun ⟨w1, w2⟩ => ?_, fun _ p hp => ?_⟩
  · refine q _ H3 (g1.trans (g2.trans g3)) ?_
    have := cut_drop zs n
    rw [w1, w2] at this
    simp at this
    show Dp X.K H3 (.ref l') (.tuple (Ds (xs.drop n)))
    have h3 := dps_drop n h2
    rw [ed] at h3
    have e0 : zs.drop n = zs := this.symm
    rw [e0] at h3
    exact .tup h1 h3
  · refine q _ _ ((g1.trans (g2.trans g3)).trans (Gr.new hp)) (.tup (.of upd_same) ?_)
    show DpAll _ _ (cutV zs (some (n : Int)) none) (Ds (xs.drop n))
    have : cutV zs (some (n : Int)) none = zs.drop n := cut_drop zs n
    rw [this, ← ed]
    exact dps_drop n (dps_gr (Gr.new hp) _ _ h2)
end
end RC

/-! RcV: the small defs of tables. -/
namespace RC
open PySem L2
open PySem.W (Datum DatumOrd Tup T3 Holds HoldAll minOf maxOf EachIs)

section
variable {G : Gx}
/-- the module's whole numbers -/
structure Nums (G : Gx) : Prop where
  rows : ∃ t, G.mg "MOST_ROWS" = some (.int 10 t)
  cols : ∃ t, G.mg "MOST_COLUMNS" = some (.int 4 t)
  val : ∃ t, G.mg "MOST_VALUE" = some (.int 6 t)
  price : ∃ t, G.mg "MOST_PRICE" = some (.int 9 t)
  diff : ∃ t, G.mg "MOST_DIFFERENT" = some (.int 7 t)
theorem dg_num {X : Cx} {lv : Nat} {r : DEnv} {p : Pos} [o : On G X lv] {x : Str} {i : Int} (h : ∃ t, G.mg x = some (.int i t)) (hg : Gl X x := by rfl) (hd : (x == ("__debug__" : Str)) = false := by decide) : DW G X (.Name x p) r (.dat (.int i)) := by
  obtain ⟨⟨CT, CB, rfl⟩, _⟩ := o
  obtain ⟨t, h⟩ := h
  exact dg_int hg h hd

abbrev sNum : Stmt := top 13
theorem scNum : FnScope ["thing", "least", "most"] ["thing", "least", "most"] (defScope sNum) := ⟨rfl, rfl, rfl, by decide +kernel, rfl, by decide +kernel, by decide +kernel⟩
def RNum (ds : List XD) (d : XD) : Prop := ∃ (i lo hi : Int), ds = [.dat (.int i), .dat (.int lo), .dat (.int hi)] ∧ d = .dat (.bool (decide (lo ≤ i) && decide (i ≤ hi)))
theorem def_num (gl : Glob G) {f : Addr} {fd : FuncData} (F : Fun G.K "is_number" "is_number" sNum f fd) (hm : G.mg "is_number" = some (.ref f)) (b : Binds G.K fd ["thing", "least", "most"] []) : Def G 1 "is_number" RNum := by
  refine def_ok gl F scNum hm b (fun ds d h => ?_) fun cdv A outer s H E on ds d hR => ?_
  · obtain ⟨_, _, _, rfl, _⟩ := h
    rfl
  · obtain ⟨i, lo, hi, rfl, rfl⟩ := hR
    refine ⟨_, db_one (ds_ret (dw_and (dw_isiInt (dv' 0)) fun _ => dw_and (dw_not (dw_isiBool (dv' 0))) fun _ => dw_one (dw_chain (dv' 1) (dv' 0) (dv' 2)))), .inl ?_⟩
    simp

/-! ### typed comprehensions -/
section
variable {X : Cx} {lv : Nat} {r : DEnv} {a b c elt tg iter tg1 iter1 : Expr} {ifs ifs1 : List Expr} {scope : Scope} {own : List (Str × Nat)} {pos p : Pos} {α β γ : Type} [DecidableEq γ] [Datum γ] [Imm γ] {sts rest : List Stmt}
theorem pts_yes : PTs X [] (tT G r true) := ⟨fun pins s σ H Q I ⟨O, f, q⟩ => pts_nil.run pins s σ H Q I (q H (Gr.refl H))⟩
theorem pts_t {k : Bool} (h : DT G X a r k) : PTs X [a] (tT G r k) := pts_one h
theorem dn_lcT [o : On G X lv] {t : Tg} (xs : List α) (en : α → XD) (pr : α → Bool) (f : α → γ) (hi : DI G X tg iter r (xs.map en)) (ok : BlkOk X.N X.env.scope scope own) (hv : ∀ i, i ∈ t.slots → i ∈ own.map (·.2))
    (hg : ∀ s H C cl fp, PG (Blk X scope s H C cl fp) tg (tgR X.K t))
    (ht : ∀ s H C cl fp x, x ∈ xs → PTs (Blk X scope s H C cl fp) ifs (tT G (bindE (r.wipe (own.map (·.2))) t (en x)) (pr x)))
    (he : ∀ s H C cl fp x, x ∈ xs → pr x = true → DW G (Blk X scope s H C cl fp) elt (bindE (r.wipe (own.map (·.2))) t (en x)) (D (f x)))
    (hm : ∀ x, x ∈ xs → tgOk t (en x)) (hz : xs.length ≤ 100000) (hs : ∀ x, foldedSetIterable iter X.env x = pure x := by intro _; rfl) :
    DN G X (.ListComp elt [⟨tg, iter, ifs, 0⟩] scope pos) r (Ds ((xs.filter pr).map f)) := by
  have := dn_lc (elt := elt) (pos := pos) xs en pr (fun x => toD (f x)) hi ok hv hg ht he hm (fun x _ _ => Imm.imm _) hz hs
  rwa [show (xs.filter pr).map (fun x => toD (f x)) = Ds ((xs.filter pr).map f) from (List.map_map).symm] at this
theorem dn_lcM [o : On G X lv] {t : Tg} (xs : List α) (en : α → XD) (f : α → γ) (hi : DI G X tg iter r (xs.map en)) (ok : BlkOk X.N X.env.scope scope own) (hv : ∀ i, i ∈ t.slots → i ∈ own.map (·.2))
    (hg : ∀ s H C cl fp, PG (Blk X scope s H C cl fp) tg (tgR X.K t))
    (he : ∀ s H C cl fp x, x ∈ xs → DW G (Blk X scope s H C cl fp) elt (bindE (r.wipe (own.map (·.2))) t (en x)) (D (f x)))
    (hm : ∀ x, x ∈ xs → tgOk t (en x)) (hz : xs.length ≤ 100000) (hs : ∀ x, foldedSetIterable iter X.env x = pure x := by intro _; rfl) :
    DN G X (.ListComp elt [⟨tg, iter, [], 0⟩] scope pos) r (Ds (xs.map f)) := by
  have := dn_lcT (elt := elt) (ifs := []) (pos := pos) xs en (fun _ => true) f hi ok hv hg (fun _ _ _ _ _ _ _ => pts_yes) (fun s H C cl fp x hx _ => he s H C cl fp x hx) hm hz hs
  rwa [List.filter_eq_self.mpr (fun _ _ => rfl)] at this
theorem dt_leI [o : On G X lv] {i j : Int} (ha : DW G X a r (.dat (.int i))) (hb : DW G X b r (.dat (.int j))) : DT G X (.Compare a [.LtE] [b] pos) r (decide (i ≤ j)) := dt_cmp op_le ha hb (r2_B0 (g := fun i j => decide (i ≤ j))) (nomark _)
theorem ds_skip {k : Bool} (h : DT G X c r k) (hk : k = false) : DS G X (.If c sts [] pos) r (.nx r) := ds_if h (fun z => by rw [hk] at z; cases z) fun _ => db_nil
end

abbrev sIsRow : Stmt := top 14
abbrev nIsRow : List Str := ["thing", "many", "value"]
theorem scIsRow : FnScope nIsRow ["thing", "many"] (defScope sIsRow) := ⟨rfl, rfl, rfl, by decide +kernel, rfl, by decide +kernel, by decide +kernel⟩
def Ent (lo hi : Int) (xs : List Int) : Prop := ∀ x, x ∈ xs → lo ≤ x ∧ x ≤ hi
def RIsRow (ds : List XD) (d : XD) : Prop := ∃ (row : Row) (m : Int), ds = [D row, .dat (.int m)] ∧ (row.items.length : Int) = m ∧ m ≤ 4 ∧ Ent 0 6 row.items ∧ d = .dat (.bool true)
theorem def_isRow (gl : Glob G) (nm : Nums G) (F1 : Def G 1 "is_number" RNum) {f : Addr} {fd : FuncData} (F : Fun G.K "is_row" "is_row" sIsRow f fd) (hm : G.mg "is_row" = some (.ref f)) (b : Binds G.K fd ["thing", "many"] []) : Def G 2 "is_row" RIsRow := by
  refine def_ok gl F scIsRow hm b (fun ds d h => ?_) fun cdv A outer s H E on ds d hR => ?_
  · obtain ⟨_, _, rfl, _⟩ := h
    rfl
  · obtain ⟨row, m, rfl, hl, hm4, hE, rfl⟩ := hR
    refine ⟨_, db_cons (ds_skip (PW.pt (dt_or (dt_not (dt_val (dw_isiTup (dv' 0)))) fun _ => dt_or1 (dt_ne (x := (row.items.length : Int)) (y := m) (dw_lent (α := Int) (dv' 0)) (dv' 1)))) (by simp [hl])) (db_one (ds_ret (dw_all (dn_w (dn_lcM (t := .one 2) (own := [("value", 2)]) row.items (fun x => D x) (fun x => decide ((0 : Int) ≤ x) && decide (x ≤ 6)) (di_tupD (α := Int) (xs := row.items) (dv 0)) (blkOk_by (N := nIsRow) (sc := defScope sIsRow) (by decide +kernel)) (by decide) (fun _ _ _ _ _ => dg_one scIsRow.nd 2)
      (fun _ _ _ _ _ x _ => dw_call F1 (da_cons (dv' 2) (da_cons dc_int (da_one (dg_num nm.val)))) ⟨x, 0, 6, rfl, rfl⟩) (fun x _ => trivial) (by omega)))))), .inl ?_⟩
    have : (row.items.map fun x => decide ((0 : Int) ≤ x) && decide (x ≤ 6)).all (fun b => b) = true := by
      rw [List.all_map, List.all_eq_true]
      intro x hx
      have := hE x hx
      simp
      omega
    exact congrArg (fun b => Out.rt (.dat (.bool b))) this

/-! ### envs that know less -/
inductive LessL : List (Option Slot) → List (Option Slot) → Prop where
  | nil : LessL [] []
  | same {x : Option Slot} {a b : List (Option Slot)} (h : LessL a b) : LessL (x :: a) (x :: b)
  | drop {x : Option Slot} {a b : List (Option Slot)} (h : LessL a b) : LessL (none :: a) (x :: b)
theorem LessL.refl : ∀ a : List (Option Slot), LessL a a
  | [] => .nil
  | x :: a => .same (LessL.refl a)
theorem LessL.len {a b : List (Option Slot)} (h : LessL a b) : a.length = b.length := by
  induction h with
  | nil => rfl
  | same _ ih => simp [ih]
  | drop _ ih => simp [ih]
theorem LessL.at {a b : List (Option Slot)} (h : LessL a b) : ∀ {i : Nat} {s : Slot}, a[i]? = some (some s) → b[i]? = some (some s) := by
  induction h with
  | nil => intro i s e; simp at e
  | same _ ih =>
    intro i s e
    cases i with
    | zero => exact e
    | succ i => exact ih (i := i) (by simpa using e)
  | drop _ ih =>
    intro i s e
    cases i with
    | zero => simp at e
    | succ i => exact ih (i := i) (by simpa using e)
structure Less (a b : DEnv) : Prop where
  sl : LessL a.sl b.sl
  pu : a.pu = true → b.pu = true
theorem Fit.less {O : List Addr} {H : Hp} {σ : L2.St} {a b : DEnv} (f : Fit G O H σ b) (h : Less a b) : Fit G O H σ a where
  len := f.len.trans h.sl.len.symm
  at_ := fun i s e => f.at_ i s (h.sl.at e)
  dis := fun i j s t e1 e2 => f.dis i j s t (h.sl.at e1) (h.sl.at e2)
  tr := f.tr
  pu := fun e => f.pu (h.pu e)
section
variable {X : Cx} {lv : Nat} {r r1 r2 : DEnv} {st : Stmt} {sts body : List Stmt} {t : Tg} {ds : List XD} {o : Out}
theorem db_less (h : DB G X sts r (.nx r1)) (l : Less r2 r1) : DB G X sts r (.nx r2) := fun B =>
  liftSs (h B) fun D σ H ⟨f, k⟩ => ⟨f, fun σ1 H1 ⟨g, O, f1, hO⟩ => k σ1 H1 ⟨g, O, f1.less l, hO⟩⟩
theorem ds_less (h : DS G X st r (.nx r1)) (l : Less r2 r1) : DS G X st r (.nx r2) := fun B =>
  liftS (h B) fun D σ H ⟨f, k⟩ => ⟨f, fun σ1 H1 ⟨g, O, f1, hO⟩ => k σ1 H1 ⟨g, O, f1.less l, hO⟩⟩
theorem db_from (h : DB G X sts r2 o) (l : Less r2 r) : DB G X sts r o := fun B =>
  liftSs (h B) fun D σ H ⟨⟨g, O, f1, hO⟩, k⟩ => ⟨⟨g, O, f1.less l, hO⟩, k⟩
theorem frun_ix (R : Nat → DEnv) (h : ∀ (i : Nat) (d : XD), ds[i]? = some d → tgOk t d ∧ ∃ r1, DB G X body (bindE (R i) t d) (.nx r1) ∧ Less (R (i + 1)) r1) : FRun G X body t ds (R 0) (R ds.length) := by
  induction ds generalizing R with
  | nil => exact .nil
  | cons d ds ih =>
    obtain ⟨h1, r1, h2, h3⟩ := h 0 d rfl
    exact .cons h1 (db_less h2 h3) (ih (fun i => R (i + 1)) fun i d' e => h (i + 1) d' (by simpa using e))
end
theorem less_of {a b : DEnv} (h : LessL a.sl b.sl := by first | exact LessL.refl _ | (repeat (first | exact LessL.nil | apply LessL.same | apply LessL.drop))) (p : a.pu = true → b.pu = true := by first | exact fun h => h | (intro h; rfl) | (intro h; cases h)) : Less a b := ⟨h, p⟩

abbrev sWidthOf : Stmt := top 15
theorem scWidthOf : FnScope ["thing"] ["thing"] (defScope sWidthOf) := ⟨rfl, rfl, rfl, by decide +kernel, rfl, by decide +kernel, by decide +kernel⟩
def RWidthOf (ds : List XD) (d : XD) : Prop := ∃ (row : Row), ds = [D row] ∧ row.items.length ≤ 4 ∧ d = .dat (.int row.items.length)
theorem def_widthOf (gl : Glob G) (nm : Nums G) {f : Addr} {fd : FuncData} (F : Fun G.K "width_of" "width_of" sWidthOf f fd) (hm : G.mg "width_of" = some (.ref f)) (b : Binds G.K fd ["thing"] []) : Def G 1 "width_of" RWidthOf := by
  refine def_ok gl F scWidthOf hm b (fun ds d h => ?_) fun cdv A outer s H E on ds d hR => ?_
  · obtain ⟨_, rfl, _⟩ := h
    rfl
  · obtain ⟨row, rfl, hl, rfl⟩ := hR
    refine ⟨_, db_one (ds_ret (dw_if (PW.pt (dt_and (dt_val (dw_isiTup (dv' 0))) fun _ => dt_and1 (dt_leI (dw_lent (α := Int) (dv' 0)) (dg_num nm.cols)))) (fun _ => dw_lent (α := Int) (dv' 0)) (fun z => ?_))), .inl rfl⟩
    simp at z
    omega

/-! ### Table -/
def tbl (i : Nat) : Stmt := match top 16 with
  | .ClassDef (body := b) .. => b.getD i (.Pass ⟨0, 0, 0, 0⟩)
  | _ => .Pass ⟨0, 0, 0, 0⟩
abbrev sInitT : Stmt := tbl 0
abbrev nInitT : List Str := ["self", "rows", "many", "index", "row"]
theorem scInitT : FnScope nInitT ["self", "rows"] (defScope sInitT) := ⟨rfl, rfl, rfl, by decide +kernel, rfl, by decide +kernel, by decide +kernel⟩
def RowOk (d : Nat) (row : Row) : Prop := row.items.length = d ∧ Ent 0 6 row.items
def RowsOk (rows : List Row) : Prop := 1 ≤ rows.length ∧ rows.length ≤ 10 ∧ ∃ d, 1 ≤ d ∧ d ≤ 4 ∧ ∀ row, row ∈ rows → RowOk d row
/-- tuple(e) of a list: its object is known -/
theorem cr_tupF {X : Cx} : CallR X (.type "tuple") (fun xs H Q => ∃ p ys, xs = [.ref p] ∧ SqL X.K H p ys ∧ ∀ l ob, H l = none → ob.cls = .type "tuple" → ob.dict = none → Q (.ref l) (upd H l (.frz ob (.tup ys)))) := by
  intro pins s σ H xs us Q I r h
  obtain ⟨p, ys, rfl, hq, q⟩ := h
  obtain ⟨u, rfl, rx⟩ := vals1 r
  cases rx
  obtain ⟨its, r', pl, hz⟩ := I.list hq
  have hlen := r'.length
  refine call_tuple_list pl.isList (fun h' kp => ?_) (by simp only [List.size_toArray] <;> omega)
  have I1 : Inv X pins σ H { s with heap := h' } := I.kept (t' := s.toks) kp
  have I2 : Inv X pins σ (upd H h'.objs.size (.frz { cls := .type "tuple", data := .seq its.toArray } (.tup ys))) { s with heap := h'.push { cls := .type "tuple", data := .seq its.toArray } } :=
    I1.laid (t' := s.toks) (fun b o e => Heap.get?_push_of_some _ e) (Nat.le_refl _) (show ObjOk X.prog X.w _ _ _ (.frz _ (.tup ys)) from ⟨Heap.get?_push_size _ rfl, hz, its, r', PyProof.Rows.IsTup.new _ _⟩)
  exact ⟨.ref h'.objs.size, _, I2, rfl, q _ _ (I1.hok.fresh (Nat.le_refl _)) rfl rfl⟩
def finT (G : Gx) (x dx : Addr) (rows : List Row) : Hp → Hp → Prop := fun B H' => ∃ H1 t ob u, Gr B H1 ∧ H1 x = some (.ins G.CT dx []) ∧ H' = upd H1 x (.ins G.CT dx (fRows t)) ∧ Dp G.K H1 (.ref t) (.tuple (Ds rows)) ∧ H1 t = some (.frz ob u) ∧ ob.cls = .type "tuple" ∧ ob.dict = none
def finB (G : Gx) (x dx : Addr) (ts : List PyData) : Hp → Hp → Prop := fun B H' => ∃ H1 l xs, Gr B H1 ∧ H1 x = some (.ins G.CB dx []) ∧ H' = upd H1 x (.ins G.CB dx (fTies l)) ∧ B l = none ∧ H1 l = some (.lst xs) ∧ DpAll G.K H1 xs ts
section
variable {X : Cx} {lv : Nat} {r : DEnv} {a : Expr} {p p2 p3 p4 pos : Pos}
/-- self.rows = tuple(e) -/
theorem ds_fldRows [on : On G X lv] (i : Nat) {sx : Str} {x dx : Addr} {rows : List Row} (hs : r.sl[i]? = some (some (.x (.new true x dx))) := by rfl) (he : DW G X a r (D rows)) (hN : X.N[i]? = some sx := by rfl) (hv : Vis X.env.scope sx := by first | exact Or.inl rfl | exact Or.inr (Or.inl rfl)) (hg : Gl X "tuple" := by rfl)
    (hdb : (sx == ("__debug__" : Str)) = false := by decide) (hcd : (sx == ("__classdict__" : Str)) = false := by decide) (hst : starEach [a] X.env = [(false, eval a X.env)] := by rfl) (hpl : (backTo p4 (starEach [] X.env)).any (·.1) = false := by rfl)
    (hsw : swapsWith (.Call (.Name "tuple" p3) [a] [] p4) (some (.Attribute (.Name sx p) "rows" p2)) pos.line X.env = pure false := by rfl) :
    DS G X (.Assign [.Attribute (.Name sx p) "rows" p2] (.Call (.Name "tuple" p3) [a] [] p4) pos) r (.fin (finT G x dx rows)) := fun B => by
  obtain ⟨⟨CT, CB, rfl⟩, _, _, _, gl⟩ := on
  refine liftS (ps_fld (pe_var hN hv hdb hcd) (pe_callTy cr_tupF hg gl.tuple PyProof.Rows.boot_tuple (da_one he hst) (by decide) (by decide) hst hpl) hsw) fun Dd σ H ⟨⟨gB, O, f, hO⟩, k⟩ => ?_
  obtain ⟨v, ev, hv0, hx⟩ := f.at_ i _ hs
  have hx' : H x = some (.ins CT dx []) := hid_le O H _ _ hx
  refine ⟨O, f, fun vs H1 g1 r1 => ?_⟩
  obtain ⟨w, rfl, r2⟩ := rep1 r1
  obtain ⟨l, ws, rfl, h1, h2⟩ := dp_lst r2
  refine ⟨l, ws, rfl, h1, fun t ob ht hc hd => ?_⟩
  have g2 : Gr H1 (upd H1 t (.frz ob (.tup ws))) := Gr.new ht
  refine ⟨v, ev, x, CT, dx, [], hv0, g2 _ _ (g1 _ _ hx'), gl.clT, gl.naT, by decide, ?_⟩
  exact k σ _ ⟨_, t, ob, _, (gB.trans g1).trans g2, g2 _ _ (g1 _ _ hx'), rfl, .tup (.inl (.inr ⟨ob, upd_same⟩)) (dps_gr g2 _ _ h2), upd_same, hc, hd⟩
/-- self.ties = list(e) -/
theorem ds_fldTies [on : On G X lv] (i : Nat) {sx : Str} {x dx : Addr} {ts : List PyData} (hs : r.sl[i]? = some (some (.x (.new false x dx))) := by rfl) (he : DN G X a r ts) (hN : X.N[i]? = some sx := by rfl) (hv : Vis X.env.scope sx := by first | exact Or.inl rfl | exact Or.inr (Or.inl rfl))
    (hdb : (sx == ("__debug__" : Str)) = false := by decide) (hcd : (sx == ("__classdict__" : Str)) = false := by decide)
    (hsw : swapsWith a (some (.Attribute (.Name sx p) "ties" p2)) pos.line X.env = pure false := by rfl) :
    DS G X (.Assign [.Attribute (.Name sx p) "ties" p2] a pos) r (.fin (finB G x dx ts)) := fun B => by
  obtain ⟨⟨CT, CB, rfl⟩, _, _, _, gl⟩ := on
  refine liftS (ps_fld (pe_var hN hv hdb hcd) he.2 hsw) fun Dd σ H ⟨⟨gB, O, f, hO⟩, k⟩ => ?_
  obtain ⟨v, ev, hv0, hx⟩ := f.at_ i _ hs
  have hx' : H x = some (.ins CB dx []) := hid_le O H _ _ hx
  refine ⟨O, f, fun q xs H1 n g1 e1 r1 => ?_⟩
  refine ⟨v, ev, x, CB, dx, [], hv0, g1 _ _ hx', gl.clB, gl.naB, by decide, ?_⟩
  exact k σ _ ⟨H1, q, xs, gB.trans g1, g1 _ _ hx', rfl, gB.back n, e1, r1⟩
end
theorem tk_ins {H : Hp} {x C dx : Addr} {fs gs : List (Str × V)} (h : H x = some (.ins C dx fs)) : Tk H (upd H x (.ins C dx gs)) := fun b zs hb => by
  have nb : b ≠ x := fun z => by
    subst z
    rcases hb with hb | ⟨_, hb⟩ <;> (rw [h] at hb; cases hb)
  rcases hb with hb | ⟨ob, hb⟩
  · exact .inl ((upd_ne nb).trans hb)
  · exact .inr ⟨ob, (upd_ne nb).trans hb⟩
theorem mk_table (gl : Glob G) (nm : Nums G) (F1 : Def G 1 "width_of" RWidthOf) (F2 : Def G 2 "is_row" RIsRow) {f : Addr} {fd : FuncData} (F : Fun G.K "__init__" "Table.__init__" sInitT f fd) (M : Mk G.K G.CT f) (b : Binds G.K fd ["self", "rows"] []) : MkT G 3 RowsOk := by
  refine ⟨f, fd, _, F.ok scInitT (fun vs H Q E h => ?_) (fun cdv A outer s H vs Q E hr h => ?_), M, b⟩
  · obtain ⟨x, dx, v, rows, rfl, _⟩ := h
    rfl
  · obtain ⟨x, dx, v, rows, rfl, hx, hv, ⟨h1, h2, d, h3, h4, h5⟩, kont⟩ := h
    have on : On G (Bx G nInitT "Table.__init__" sInitT f cdv A outer s H E) 2 := on_bx gl scInitT.nd hr
    obtain ⟨row0, rest, rfl⟩ : ∃ a l, rows = a :: l := by
      cases rows with
      | nil => simp at h1
      | cons a l => exact ⟨a, l, rfl⟩
    have e0 : row0.items.length = d := (h5 row0 List.mem_cons_self).1
    have fit : Fit G [] H (L2.start nInitT [.ref x, v]) (startE nInitT.length [.new true x dx, D (row0 :: rest)]) := fit_start (.cons ⟨rfl, hx⟩ (.cons hv .nil)) (by simp)
    have hl1 : ((row0 :: rest).length : Int) ≤ 10 := by omega
    have hl2 : (1 : Int) ≤ ((row0 :: rest).length : Int) := by omega
    have body : DB G (Bx G nInitT "Table.__init__" sInitT f cdv A outer s H E) (defBody sInitT) (startE nInitT.length [.new true x dx, D (row0 :: rest)]) (.fin (finT G x dx (row0 :: rest))) := by
      refine db_cons (ds_skip (PW.pt (dt_or (dt_not (dt_val (dw_isiLT (dv' 1)))) fun _ => dt_or1 (dt_not (dt_chain dc_int (dw_len (α := Row) (dv' 1)) (dg_num nm.rows))))) ?_) ?_
      · simp only [Bool.not_true, Bool.false_or, hl1, hl2, decide_true, Bool.and_true]
      refine db_cons (ds_set 2 (pv_im (dw_call F1 (da_one (dw_ixL (i := 0) (d := toD row0) (dv' 1) dc_int rfl rfl)) ⟨row0, rfl, by omega, rfl⟩) rfl)) ?_
      refine db_cons (ds_for (t := .tup [3, 4]) (di_enum (dv 1) (imsD (row0 :: rest))) (dg_tup rfl (dg_cons scInitT.nd 3 (dg_cons scInitT.nd 4 dg_nil))) (frun_ix (fun _ => _) fun i dd hd => ?_) PassesOwn.never) ?_
      · rw [List.getElem?_map] at hd
        obtain ⟨i', hi', rfl⟩ := Option.map_eq_some_iff.mp hd
        have hlt := (List.getElem?_eq_some_iff.mp hi').1
        rw [List.getElem?_range (by simpa using hlt)] at hi'
        cases hi'
        rw [List.length_range, List.length_map] at hlt
        obtain ⟨row, hrow⟩ : ∃ row, (row0 :: rest)[i]? = some row := ⟨_, List.getElem?_eq_getElem hlt⟩
        have eg : (Ds (row0 :: rest)).getD i .none = toD row := by
          rw [List.getD_eq_getElem?_getD, List.getElem?_map, hrow]
          rfl
        rw [eg]
        have ok := h5 row (List.mem_of_getElem? hrow)
        refine ⟨rfl, _, db_one (ds_skip (PW.pt (dt_or (dt_eq (x := (row0.items.length : Int)) (y := 0) (dv' 2) dc_int) fun _ => dt_or1 (dt_not (dt_val (dw_call F2 (da_cons (dv' 4) (da_one (dv' 2))) ⟨row, row0.items.length, rfl, by rw [ok.1, e0], by omega, ok.2, rfl⟩))))) ?_), less_of⟩
        have : ¬ ((row0.items.length : Int) = 0) := by omega
        rw [decide_eq_false this]
        rfl
      · exact db_one (ds_fldRows 0 (he := dv' 1))
    refine ⟨_, body H, ⟨⟨Gr.refl H, [], fit, fun a ha => by cases ha⟩, fun σ H' ⟨H1, t, ob, u, g1, hx1, e, h6, h7, h8, h9⟩ => ?_⟩⟩
    subst e
    have hxt : x ≠ t := fun z => by rw [← z, hx1] at h7; cases h7
    refine kont _ t (fun bb o nb hb => ?_) upd_same ?_ ⟨ob, u, ?_, h8, h9⟩
    · rw [upd_ne nb]
      exact g1 _ _ hb
    · exact dp_tk (tk_ins hx1) _ _ (by simp only [im]; exact imsD _) h6
    · rw [upd_ne (Ne.symm hxt)]
      exact h7
end
end RC

/-! RcW: the defs of tables. -/
namespace RC
open PySem L2
open PySem.W (Datum DatumOrd Tup T3 Holds HoldAll minOf maxOf EachIs)

/-- a table's rows, its different rows, its width -/
structure TabOk (rows Dr : List Row) (d : Nat) : Prop where
  ne : 1 ≤ rows.length
  few : rows.length ≤ 10
  w1 : 1 ≤ d
  w4 : d ≤ 4
  ok : ∀ row, row ∈ rows → RowOk d row
  asc : Sasc Dr
  mem : ∀ x, x ∈ Dr ↔ x ∈ rows
  few7 : Dr.length ≤ 7
structure PrOk (p : Row) (d : Nat) : Prop where
  len : p.items.length = d
  ent : Ent 0 9 p.items
/-- what differs costs -/
def apartM (a b p : Row) : Int := (((zip3 a.items b.items p.items).filter fun q => decide (q.1 ≠ q.2.1)).map fun q => q.2.2).sum

section
variable {G : Gx}
section
variable {X : Cx} {lv : Nat} {r : DEnv} {a b c : Expr} {pos p tpos : Pos} {elts : List Expr} {kk : Nat} {α β : Type} [DecidableEq α] [Datum α] [Imm α] [DecidableEq β] [Datum β] [Imm β]
theorem zip3_map {α β γ α' β' γ' : Type} (f : α → α') (g : β → β') (h : γ → γ') (xs : List α) (ys : List β) (zs : List γ) : zip3 (xs.map f) (ys.map g) (zs.map h) = (zip3 xs ys zs).map fun q => (f q.1, g q.2.1, h q.2.2) := by
  unfold zip3
  rw [List.zip_map, List.zip_map]
  rfl
theorem di_zipT3I [o : On G X lv] {xs ys zs : List Int} (h : DE G X a r (D (Tup.mk xs))) (h' : DE G X b r (D (Tup.mk ys))) (h'' : DE G X c r (D (Tup.mk zs))) (hl : xs.length = ys.length) (hl2 : ys.length = zs.length) (hg : Gl X "zip" := by rfl)
    (hs : starEach [a, b, c] X.env = (false, eval a X.env) :: starEach [b, c] X.env := by rfl) (hs2 : starEach [b, c] X.env = (false, eval b X.env) :: starEach [c] X.env := by rfl)
    (hs3 : starEach [c] X.env = [(false, eval c X.env)] := by rfl) (hpl : (backTo pos (starEach [b, c] X.env)).any (·.1) = false := by rfl) :
    DI G X (.Tuple elts kk tpos) (.Call (.Name "zip" p) [a, b, c] [] pos) r ((zip3 xs ys zs).map fun q => XD.dat (.tuple [.int q.1, .int q.2.1, .int q.2.2])) := by
  have := di_zipT3 (elts := elts) (kk := kk) (tpos := tpos) (p := p) (pos := pos) (ds := Ds xs) (ds2 := Ds ys) (ds3 := Ds zs) h h' h'' (imsD _) (imsD _) (imsD _) (by simpa using hl) (by simpa using hl2) hg hs hs2 hs3 hpl
  rw [zip3_map, List.map_map] at this
  exact this
/-- zip of two tuples, of two lists -/
theorem di_zipTD [o : On G X lv] {xs : List α} {ys : List β} (h : DE G X a r (D (Tup.mk xs))) (h' : DE G X b r (D (Tup.mk ys))) (hg : Gl X "zip" := by rfl) (hs : starEach [a, b] X.env = (false, eval a X.env) :: starEach [b] X.env := by rfl)
    (hs2 : starEach [b] X.env = [(false, eval b X.env)] := by rfl) (hpl : (backTo pos (starEach [b] X.env)).any (·.1) = false := by rfl) :
    DI G X (.Tuple elts kk tpos) (.Call (.Name "zip" p) [a, b] [] pos) r ((xs.zip ys).map fun q => D q) := by
  have := di_zipT (elts := elts) (kk := kk) (tpos := tpos) (p := p) (pos := pos) (ds := Ds xs) (ds2 := Ds ys) h h' (imsD _) (imsD _) hg hs hs2 hpl
  rw [List.zip_map, List.map_map] at this
  exact this
end
abbrev sWidth : Stmt := tbl 5
theorem scWidth : FnScope ["self"] ["self"] (defScope sWidth) := ⟨rfl, rfl, rfl, by decide +kernel, rfl, by decide +kernel, by decide +kernel⟩
def RWidth (ds : List XD) (d : XD) : Prop := ∃ (row0 : Row) (rest : List Row), ds = [.tab (row0 :: rest)] ∧ d = .dat (.int row0.items.length)
theorem prop_width (gl : Glob G) {pa g : Addr} {fd : FuncData} (F : Fun G.K "width" "Table.width" sWidth g fd) (P : PropOf G.K G.CT "width" pa g) (b : Binds G.K fd ["self"] []) : DefP G 1 "width" RWidth := by
  refine ⟨pa, g, fd, _, fn_ok gl F scWidth (fun ds d h => ?_) (fun cdv A outer s H E on ds d hR => ?_), P, b⟩
  · obtain ⟨_, _, rfl, _⟩ := h
    rfl
  · obtain ⟨row0, rest, rfl, rfl⟩ := hR
    exact ⟨_, db_one (ds_ret (dw_lent (α := Int) (dw_ixT (i := 0) (d := toD row0) (dw_rows (dv' 0)) dc_int rfl rfl))), .inl rfl⟩

abbrev sDiff : Stmt := tbl 7
abbrev nDiff : List Str := ["self", "row"]
theorem scDiff : FnScope nDiff ["self"] (defScope sDiff) := ⟨rfl, rfl, rfl, by decide +kernel, rfl, by decide +kernel, by decide +kernel⟩
def countM (rows : List Row) (x : Row) : Int := ((rows.countP fun y => decide (y = x) : Nat) : Int)
def RDiff (ds : List XD) (d : XD) : Prop := ∃ (rows Dr : List Row) (w : Nat), ds = [.tab rows] ∧ TabOk rows Dr w ∧ d = D (Dr.map fun x => (x, countM rows x))
theorem def_diff (gl : Glob G) {f : Addr} {fd : FuncData} (F : Fun G.K "different" "Table.different" sDiff f fd) (M : Meth G.K G.CT "different" f) (b : Binds G.K fd ["self"] []) : DefT G 1 "different" RDiff := by
  refine ⟨f, fd, _, fn_ok gl F scDiff (fun ds d h => ?_) (fun cdv A outer s H E on ds d hR => ?_), M, b⟩
  · obtain ⟨_, _, _, rfl, _⟩ := h
    rfl
  · obtain ⟨rows, Dr, w, rfl, T, rfl⟩ := hR
    have hB : ∀ x, x ∈ rows → x.items.length = w ∧ TS.Bd 7 x.items := fun x hx => ⟨(T.ok x hx).1, fun m hm => by
      have := (T.ok x hx).2 m hm
      omega⟩
    exact ⟨_, db_one (ds_ret (dn_w (dn_lcM (t := .one 1) (own := [("row", 1)]) Dr (fun x => D x) (fun x => (x, countM rows x)) (di_listD (dn_e (dn_sortSet (dw_rows (dv' 0)) (by have := T.few; omega) T.w1 hB T.asc T.mem))) (blkOk_by (N := nDiff) (sc := defScope sDiff) (by decide +kernel)) (by decide) (fun _ _ _ _ _ => dg_one scDiff.nd 1)
      (fun _ _ _ _ _ x _ => dw_pair (dv' 1) (dw_count (rows := rows) (x := x) (dv' 0) (dv' 1))) (fun x _ => trivial) (by have := T.few7; omega)))), .inl rfl⟩

abbrev sCkT : Stmt := top 17
theorem scCkT : FnScope ["table"] ["table"] (defScope sCkT) := ⟨rfl, rfl, rfl, by decide +kernel, rfl, by decide +kernel, by decide +kernel⟩
def RCkT (ds : List XD) (d : XD) : Prop := ∃ (rows : List Row), ds = [.tab rows] ∧ d = .dat .none
theorem def_ckT (gl : Glob G) {f : Addr} {fd : FuncData} (F : Fun G.K "check_table" "check_table" sCkT f fd) (hm : G.mg "check_table" = some (.ref f)) (b : Binds G.K fd ["table"] []) : Def G 1 "check_table" RCkT := by
  refine def_ok gl F scCkT hm b (fun ds d h => ?_) fun cdv A outer s H E on ds d hR => ?_
  · obtain ⟨_, rfl, _⟩ := h
    rfl
  · obtain ⟨rows, rfl, rfl⟩ := hR
    exact ⟨_, db_one (ds_skip (dt_not (dt_val (dw_isiTable (dv' 0)))) rfl), .inr ⟨⟨_, rfl⟩, rfl⟩⟩

abbrev sCkP : Stmt := top 18
abbrev nCkP : List Str := ["table", "prices", "price"]
theorem scCkP : FnScope nCkP ["table", "prices"] (defScope sCkP) := ⟨rfl, rfl, rfl, by decide +kernel, rfl, by decide +kernel, by decide +kernel⟩
def RCkP (ds : List XD) (d : XD) : Prop := ∃ (rows Dr : List Row) (w : Nat) (pr : Row), ds = [.tab rows, D pr] ∧ TabOk rows Dr w ∧ PrOk pr w ∧ d = .dat .none
theorem def_ckP (gl : Glob G) (nm : Nums G) (F1 : Def G 1 "is_number" RNum) (F2 : DefP G 1 "width" RWidth) {f : Addr} {fd : FuncData} (F : Fun G.K "check_prices" "check_prices" sCkP f fd) (hm : G.mg "check_prices" = some (.ref f)) (b : Binds G.K fd ["table", "prices"] []) : Def G 3 "check_prices" RCkP := by
  refine def_ok gl F scCkP hm b (fun ds d h => ?_) fun cdv A outer s H E on ds d hR => ?_
  · obtain ⟨_, _, _, _, rfl, _⟩ := h
    rfl
  · obtain ⟨rows, Dr, w, pr, rfl, T, P, rfl⟩ := hR
    have ne := T.ne
    obtain ⟨row0, rest, rfl⟩ : ∃ a l, rows = a :: l := by
      cases rows with
      | nil => simp at ne
      | cons a l => exact ⟨a, l, rfl⟩
    have e0 : row0.items.length = w := (T.ok row0 List.mem_cons_self).1
    have w4 := T.w4
    have pl := P.len
    refine ⟨_, db_cons (ds_skip (PW.pt (dt_or (dt_not (dt_val (dw_isiTup (dv' 1)))) fun _ => dt_or1 (dt_ne (x := (pr.items.length : Int)) (y := (row0.items.length : Int)) (dw_lent (α := Int) (dv' 1)) (dw_propT F2 (dv' 0) ⟨row0, rest, rfl, rfl⟩)))) (by simp [pl, e0])) (db_one (ds_skip (dt_not (dt_val (dw_all (dn_w (dn_lcM (t := .one 2) (own := [("price", 2)]) pr.items (fun x => D x) (fun x => decide ((0 : Int) ≤ x) && decide (x ≤ 9)) (di_tupD (α := Int) (xs := pr.items) (dv 1)) (blkOk_by (N := nCkP) (sc := defScope sCkP) (by decide +kernel)) (by decide) (fun _ _ _ _ _ => dg_one scCkP.nd 2)
      (fun _ _ _ _ _ x _ => dw_call F1 (da_cons (dv' 2) (da_cons dc_int (da_one (dg_num nm.price)))) ⟨x, 0, 9, rfl, rfl⟩) (fun x _ => trivial) (by omega)))))) ?_)), .inr ⟨⟨_, rfl⟩, rfl⟩⟩
    have : (pr.items.map fun x => decide ((0 : Int) ≤ x) && decide (x ≤ 9)).all id = true := by
      rw [List.all_map, List.all_eq_true]
      intro x hx
      have := P.ent x hx
      simp
      omega
    rw [this]
    rfl

abbrev sApart : Stmt := top 19
abbrev nApart : List Str := ["one", "other", "prices", "mine", "theirs", "price"]
theorem scApart : FnScope nApart ["one", "other", "prices"] (defScope sApart) := ⟨rfl, rfl, rfl, by decide +kernel, rfl, by decide +kernel, by decide +kernel⟩
def RApart (ds : List XD) (d : XD) : Prop := ∃ (x y p : Row), ds = [D x, D y, D p] ∧ x.items.length = y.items.length ∧ y.items.length = p.items.length ∧ p.items.length ≤ 4 ∧ d = .dat (.int (apartM x y p))
theorem def_apart (gl : Glob G) {f : Addr} {fd : FuncData} (F : Fun G.K "apart" "apart" sApart f fd) (hm : G.mg "apart" = some (.ref f)) (b : Binds G.K fd ["one", "other", "prices"] []) : Def G 1 "apart" RApart := by
  refine def_ok gl F scApart hm b (fun ds d h => ?_) fun cdv A outer s H E on ds d hR => ?_
  · obtain ⟨_, _, _, rfl, _⟩ := h
    rfl
  · obtain ⟨x, y, p, rfl, l1, l2, l3, rfl⟩ := hR
    refine ⟨_, db_one (ds_ret (dw_sum (dn_w (dn_lcT (t := .tup [3, 4, 5]) (own := [("mine", 3), ("theirs", 4), ("price", 5)]) (zip3 x.items y.items p.items) (fun q => XD.dat (.tuple [.int q.1, .int q.2.1, .int q.2.2])) (fun q => decide (q.1 ≠ q.2.1)) (fun q => q.2.2) (di_zipT3I (dv 0) (dv 1) (dv 2) l1 l2) (blkOk_by (N := nApart) (sc := defScope sApart) (by decide +kernel)) (by decide) (fun _ _ _ _ _ => dg_tup rfl (dg_cons scApart.nd 3 (dg_cons scApart.nd 4 (dg_cons scApart.nd 5 dg_nil))))
      (fun _ _ _ _ _ q _ => pts_t (dt_ne (x := q.1) (y := q.2.1) (dv' 3) (dv' 4))) (fun _ _ _ _ _ q _ _ => dv' 5) (fun q _ => rfl) ?_)))), .inl rfl⟩
    · unfold zip3
      rw [List.length_zip, List.length_zip]
      omega
end
end RC

/-! RcX: a call whose arguments lean on nothing of one's own gives what leans on nothing of one's own. -/
namespace RC
open PySem L2
open PySem.W (Datum DatumOrd Tup T3 Holds HoldAll minOf maxOf EachIs)
section
variable {G : Gx} {X : Cx} {lv : Nat} {r : DEnv} {e a b c : Expr} {es : List Expr} {pos p p2 : Pos} {d : XD} {ds : List XD}
def tAE (G : Gx) (r : DEnv) (ds : List XD) : TA := fun σ H Q => ∃ O, Fit G O H σ r ∧ ∀ vs H', Gr H H' → RepAll G (hid O H') vs ds → Q vs H'
abbrev DAE (G : Gx) (X : Cx) (es : List Expr) (r : DEnv) (ds : List XD) : Prop := PA X es (tAE G r ds)
theorem dae_nil : DAE G X [] r [] := liftA pa_nil fun σ H Q ⟨O, f, q⟩ => q [] H (Gr.refl H) .nil
theorem dae_cons (h : DE G X e r d) (t : DAE G X es r ds) (hs : starEach (e :: es) X.env = (false, eval e X.env) :: starEach es X.env := by rfl) : DAE G X (e :: es) r (d :: ds) :=
  liftA (pa_cons h t hs) fun σ H Q ⟨O, f, q⟩ => ⟨O, f, fun x H1 g1 r1 => ⟨O, f.gr g1, fun xs H2 g2 r2 => q (x :: xs) H2 (g1.trans g2) (.cons (rep_gr (hid_gr g2) r1) r2)⟩⟩
theorem dae_one (h : DE G X e r d) (hs : starEach [e] X.env = [(false, eval e X.env)] := by rfl) : DAE G X [e] r [d] := dae_cons h dae_nil hs
theorem hok_hid {P : Program} {w : World} {H : Hp} {h : Heap} {O : List Addr} (hok : HOk P w H h) (tr : ∀ a, a ∈ O → ∃ o, H a = some o ∧ NoT o) : HOk P w (hid O H) h := fun a o e => by
  have ha : a ∉ O := fun z => by rw [hid_in z] at e; cases e
  rw [hid_out ha] at e
  refine (hok a o e).stay (fun _ _ _ q => q) (fun b q => ?_) fun b xs q => ?_
  · have hb : b ∉ O := fun z => by
      obtain ⟨u, e1, n⟩ := tr b z
      rw [q] at e1
      cases e1
      exact n
    rw [hid_out hb]
    exact q
  · have hb : b ∉ O := fun z => by
      obtain ⟨u, e1, n⟩ := tr b z
      rw [q] at e1
      cases e1
      exact n
    rw [hid_out hb]
    exact q
/-- the hidden ones again -/
def rev (O : List Addr) (H H' : Hp) : Hp := fun a => if a ∈ O then H a else H' a
theorem run_hid {pins : List (Addr × Obj)} {σ : L2.St} {H : Hp} {s : Shared} {Q Q' : VK} {us : List Value} {vs : List V} {k : Nat} {f : Addr} {fd : FuncData} {ps : List Str} {sp : Sp} {O : List Addr} (F : FnOk X.prog X.w X.K X.mg X.base CX0 k f fd ps sp) (hr : Room k X.A) (hb : Binds X.K fd ps [])
    (I : Inv X pins σ H s) (tr : ∀ a, a ∈ O → ∃ o, H a = some o ∧ NoT o) (r : Vals vs us) (h : sp vs (hid O H) Q' E0) (kk : ∀ v H', Q' v H' → (∀ a, a ∈ O → H' a = none) → Q v (rev O H H')) : wpAny (model X.prog X.w) X.A (call (.ref f) us) (EP X pins σ Q) X.xe s := by
  have hl : us.length = ps.length := by rw [← r.length]; exact F.len _ _ _ _ h
  have e0 := I.env0
  have e1 : Env0 X.prog X.w X.K X.mg X.base X.A X.stack s (hid O H) := ⟨e0.frames, e0.mod, fun b o e => ⟨(e0.bs b o e).1, by
    unfold hid
    split
    · rfl
    · exact (e0.bs b o e).2⟩, e0.bsz, e0.funs, fun b hb => by
    unfold hid
    split
    · rfl
    · exact e0.frf b hb, hok_hid e0.hok tr, e0.bare⟩
  have hbind := hb s us I.kIn (by simpa using hl)
  rw [List.append_nil] at hbind
  refine wpAny_call (codeAny_mono (F.run X.A X.stack s (hid O H) ⟨us, []⟩ us vs Q' E0 hr e1 hbind r h) fun r s' hq => ?_)
  cases r with
  | error e => exact hq.elim
  | ok fl =>
    cases fl with
    | ret u =>
      obtain ⟨v, H', os, bare, un, hok, rv, q⟩ := hq
      have hO : ∀ a, a ∈ O → H' a = none := fun a ha => by
        obtain ⟨o, ea, _⟩ := tr a ha
        have hlt := (I.hok a o ea).lt
        cases eg : s.heap.get? a with
        | some ob => exact un.free a ob eg (hid_in ha) (by simp)
        | none =>
          exfalso
          obtain ⟨o, ea, n⟩ := tr a ha
          have ok := I.hok a o ea
          cases o with
          | lst xs => obtain ⟨_, _, _, _, e⟩ := ok; rw [e] at eg; cases eg
          | ext φ => obtain ⟨_, ⟨_, e⟩, _⟩ := ok; rw [e] at eg; cases eg
          | _ => exact n
      have nfr : ∀ a, a ∈ O → a ∉ frs X.stack := fun a ha z => by
        obtain ⟨o, ea, _⟩ := tr a ha
        rw [e0.frf a z] at ea
        cases ea
      have hn : ∀ b, H b = none → hid O H b = none := fun b hb => by
        unfold hid
        split
        · rfl
        · exact hb
      have un2 : Un (frs X.stack) [] H (rev O H H') s.heap s'.heap := by
        refine ⟨fun b o e n hb hx => un.keep b o e (hn b n) hb hx, fun b o e n hb hx => un.slot b o e (hn b n) hb hx, fun b o e n hx => ?_, un.there, fun b xs e => ?_, fun b o u e => ?_, fun b qs e => ?_⟩
        · unfold rev
          split
          · exact n
          · exact un.free b o e (hn b n) hx
        · unfold rev
          split
          · exact e
          · rename_i hb
            exact un.tups b xs (by rw [hid_out hb]; exact e)
        · unfold rev
          split
          · exact e
          · rename_i hb
            exact un.frzs b o u (by rw [hid_out hb]; exact e)
        · unfold rev
          split
          · exact ⟨#[], by rw [e]; simp⟩
          · rename_i hb
            exact un.tbls b qs (by rw [hid_out hb]; exact e)
      have hok2 : HOk X.prog X.w (rev O H H') s'.heap := fun a o e => by
        unfold rev at e
        split at e
        · rename_i ha
          have ok := I.hok a o e
          obtain ⟨o', ea, n⟩ := tr a ha
          rw [e] at ea
          cases ea
          cases o with
          | lst xs =>
            obtain ⟨z, its, m, rr, eg⟩ := ok
            exact ⟨z, its, m, rr, un.keep a _ eg (hid_in ha) (nfr a ha) (by simp)⟩
          | ext φ =>
            obtain ⟨z, ⟨ob, eg⟩, st⟩ := ok
            have eg' := un.keep a _ eg (hid_in ha) (nfr a ha) (by simp)
            exact ⟨st s.heap s'.heap z fun o2 e2 => un.keep a _ e2 (hid_in ha) (nfr a ha) (by simp), ⟨ob, eg'⟩, st⟩
          | _ => exact n.elim
        · refine (hok a o e).stay (fun _ _ _ q => q) (fun b q => ?_) fun b xs q => ?_
          · unfold rev
            rw [if_neg fun z => by rw [hO b z] at q; cases q]
            exact q
          · unfold rev
            rw [if_neg fun z => by rw [hO b z] at q; cases q]
            exact q
      exact I.after ⟨v, rev O H H', os, bare, un2, hok2, rv, kk v H' q hO⟩
    | next => exact False.elim hq
    | brk => exact False.elim hq
    | cont => exact False.elim hq
theorem de_call [o : On G X lv] {k : Nat} {x : Str} {R : List XD → XD → Prop} (F : Def G k x R) (ha : DAE G X (e :: es) r ds) (hR : R ds d) (hk : k ≤ lv := by decide) (hg : Gl X x := by rfl) (hdb : (x == ("__debug__" : Str)) = false := by decide) (he : starEach (e :: es) X.env = (false, eval e X.env) :: starEach es X.env := by rfl)
    (hpl : (backTo pos (starEach es X.env)).any (·.1) = false := by rfl) : DE G X (.Call (.Name x p) (e :: es) [] pos) r d := by
  obtain ⟨⟨CT, CB, rfl⟩, _, hr, _, gl⟩ := o
  obtain ⟨f, fd, ps, F1, hm, hkp, hb⟩ := F.ok
  refine ⟨fun pins s σ H Q I ⟨O, fit, q⟩ => ?_⟩
  refine wpAny_Call_Name_kw (ld_glob I hg hm ?_ hdb)
  refine PySem.W.callWith_K (h₀ := X.base) I.ok.mod.kin hkp (thn (ha.run pos pins s σ H (fun vs H1 => Gr H H1 ∧ RepAll ⟨X.prog, X.w, X.K, X.mg, X.base, CT, CB⟩ (hid O H1) vs ds) I ⟨O, fit, fun vs H1 g1 r1 => ⟨g1, r1⟩⟩) fun us s1 ⟨vs, H1, I1, rv, g1, r1⟩ => ⟨I1.kIn, ?_⟩) he hpl
  have f1 := fit.gr g1
  refine run_hid (Q' := fun v H' => Gr (hid O H1) H' ∧ Rep ⟨X.prog, X.w, X.K, X.mg, X.base, CT, CB⟩ H' v d) F1 (hr.mono hk) hb I1 f1.tr rv ⟨ds, d, r1, hR, fun v H' g' r' => ⟨g', r'⟩⟩ fun v H' ⟨g', r'⟩ hO => ?_
  have eh : hid O (rev O H1 H') = H' := by
    funext b
    unfold hid rev
    by_cases hb : b ∈ O
    · rw [if_pos hb, hO b hb]
    · rw [if_neg hb, if_neg hb]
  refine q v _ (g1.trans fun b ob e => ?_) (by rw [eh]; exact r')
  unfold rev
  by_cases hb : b ∈ O
  · rw [if_pos hb]; exact e
  · rw [if_neg hb]
    exact g' b ob (by rw [hid_out hb]; exact e)
end
end RC

/-! RcY: the defs of ways. -/
namespace RC
open PySem L2
open PySem.W (Datum DatumOrd Tup T3 Holds HoldAll minOf maxOf EachIs)
abbrev Lot := Tup Row
/-! ### mirrors -/
def lotStep (f : List Lot) (t : Row) : List Lot := f ++ f.map fun lot => Tup.mk (lot.items ++ [t])
def lotsF (ts : List Row) : List Lot := ts.foldl lotStep [Tup.mk []]
def lotsM (ts : List Row) : List Lot := (lotsF ts).mergeSort fun a b => decide (a.items.length ≤ b.items.length)
def withoutM (xs : List Row) (t : Row) : Lot := Tup.mk (xs.filter fun x => decide (x ≠ t))
def pairsM (ts : List Row) : List (Lot × Row) := (lotsM ts).flatMap fun lot => (ts.filter fun last => decide (last ∉ lot.items)).map fun last => (lot, last)
def minM : List Int → Int
  | [] => 0
  | x :: xs => minOf x xs
section
variable {α : Type} [DecidableEq α]
def lk (kvs : List (α × Int)) (k : α) : Int := (look kvs k).getD 0
end
abbrev Costs := List ((Row × Row) × Int)
abbrev Rest := List ((Lot × Row) × Int)
def leastM (lot : Lot) (last : Row) (costs : Costs) (rest : Rest) : Int := minM (lot.items.map fun t => lk costs (last, t) + lk rest (withoutM lot.items t, t))
def restStep (costs : Costs) (found : Rest) (p : Lot × Row) : Rest := found ++ [(p, leastM p.1 p.2 costs found)]
def restM (ts : List Row) (costs : Costs) : Rest := (pairsM ts).foldl (restStep costs) []
def leastCostM (ts : List Row) (rest : Rest) : Int := minM (ts.map fun t => lk rest (withoutM ts t, t))

section
variable {G : Gx} {X : Cx} {lv : Nat} {r : DEnv} {a b c elt tg iter tg1 iter1 : Expr} {ifs ifs1 : List Expr} {scope : Scope} {own : List (Str × Nat)} {pos p : Pos} {α β γ : Type} [DecidableEq γ] [Datum γ] [Imm γ] {sts rest : List Stmt}
/-- a list, a dict of one's own, as a value -/
theorem dvo [o : On G X lv] (i : Nat) {ds : List PyData} {x : Str} (hs : r.sl[i]? = some (some (.own ds)) := by rfl) (hN : X.N[i]? = some x := by rfl) (hv : Vis X.env.scope x := by first | exact Or.inl rfl | exact Or.inr (Or.inl rfl) | exact Or.inr (Or.inr rfl))
    (hd : (x == ("__debug__" : Str)) = false := by decide) (hcd : (x == ("__classdict__" : Str)) = false := by decide) : DW G X (.Name x pos) r (.dat (.list ds)) := dw_var i hs hN hv hd hcd
theorem dvd [o : On G X lv] (i : Nat) {kvs : List (NestedKey × Int)} {x : Str} (hs : r.sl[i]? = some (some (.ownD kvs)) := by rfl) (hN : X.N[i]? = some x := by rfl) (hv : Vis X.env.scope x := by first | exact Or.inl rfl | exact Or.inr (Or.inl rfl) | exact Or.inr (Or.inr rfl))
    (hd : (x == ("__debug__" : Str)) = false := by decide) (hcd : (x == ("__classdict__" : Str)) = false := by decide) : DW G X (.Name x pos) r (.dic kvs) := dw_var i hs hN hv hd hcd
def out2 (xs : List α) (ys : α → List β) (pr : α → β → Bool) (f : α → β → γ) : List γ := xs.flatMap fun x => ((ys x).filter (pr x)).map (f x)
theorem dn_lc2T [o : On G X lv] {t t1 : Tg} (xs : List α) (en : α → XD) (ys : α → List β) (en1 : β → XD) (pr : α → β → Bool) (f : α → β → γ) (vs1 : List Nat) (hi : DI G X tg iter r (xs.map en)) (ok : BlkOk X.N X.env.scope scope own) (hv : ∀ i, i ∈ t.slots → i ∈ own.map (·.2)) (hv1 : ∀ i, i ∈ t1.slots → i ∈ vs1) (hvv : ∀ i ∈ vs1, i ∈ own.map (·.2))
    (hg : ∀ s H C cl fp, PG (Blk X scope s H C cl fp) tg (tgR X.K t)) (hg1 : ∀ s H C cl fp, PG (Blk X scope s H C cl fp) tg1 (tgR X.K t1))
    (hi1 : ∀ s H C cl fp x, x ∈ xs → DI G (Blk X scope s H C cl fp) tg1 iter1 (bindE (r.wipe (own.map (·.2))) t (en x)).shut ((ys x).map en1))
    (ht1 : ∀ s H C cl fp x y, x ∈ xs → y ∈ ys x → PTs (Blk X scope s H C cl fp) ifs1 (tT G (bindE ((bindE (r.wipe (own.map (·.2))) t (en x)).wipe vs1) t1 (en1 y)).shut (pr x y)))
    (he : ∀ s H C cl fp x y, x ∈ xs → y ∈ ys x → pr x y = true → DW G (Blk X scope s H C cl fp) elt (bindE ((bindE (r.wipe (own.map (·.2))) t (en x)).wipe vs1) t1 (en1 y)).shut (D (f x y)))
    (hm : ∀ x, x ∈ xs → tgOk t (en x)) (hm1 : ∀ x y, x ∈ xs → y ∈ ys x → tgOk t1 (en1 y)) (hz : (xs.flatMap ys).length ≤ 100000) (hs : ∀ x, foldedSetIterable iter X.env x = pure x := by intro _; rfl) (hs1 : ∀ env x, foldedSetIterable iter1 env x = pure x := by intro _ _; rfl) :
    DN G X (.ListComp elt [⟨tg, iter, [], 0⟩, ⟨tg1, iter1, ifs1, 0⟩] scope pos) r (Ds (out2 xs ys pr f)) := by
  have := dn_lc2 (elt := elt) (pos := pos) xs en ⟨ys, en1, pr, fun x y => toD (f x y)⟩ vs1 hi ok hv hv1 hvv hg hg1 hi1 ht1 he hm hm1 (fun x y _ _ _ => Imm.imm _) hz hs hs1
  have e : xs.flatMap (In2.out ⟨ys, en1, pr, fun x y => toD (f x y)⟩) = Ds (out2 xs ys pr f) := by
    unfold out2 In2.out Ds
    rw [List.map_flatMap]
    congr 1
    funext x
    rw [List.map_map]
    rfl
  rwa [e] at this
end
section
variable {G : Gx}
abbrev nWithout : List Str := ["lot", "thing", "one"]
def RWith (ds : List XD) (d : XD) : Prop := ∃ (lot : List Row) (thing : Row), (ds = [D (Tup.mk lot), D thing] ∨ ds = [D lot, D thing]) ∧ d = D (withoutM lot thing) ∧ lot.length ≤ 1000
theorem def_with (gl : Glob G) {f : Addr} {fd : FuncData} (F : Fun G.K "without" "without" sWithout f fd) (hm : G.mg "without" = some (.ref f)) (b : Binds G.K fd ["lot", "thing"] []) : Def G 1 "without" RWith := by
  refine def_ok gl F scWithout hm b (fun ds d h => ?_) fun cdv A outer s H E on ds d hR => ?_
  · obtain ⟨_, _, h, _⟩ := h
    rcases h with rfl | rfl <;> rfl
  · obtain ⟨lot, thing, h, rfl, hz⟩ := hR
    rcases h with rfl | rfl
    · exact ⟨_, db_one (ds_ret (dw_tuple (dn_w (dn_lc (t := .one 2) (own := [("one", 2)]) lot (fun x => D x) (fun x => decide (x ≠ thing)) (fun x => toD x) (di_tupD (dv 0)) (blkOk_by (N := nWithout) (sc := defScope sWithout) (by decide +kernel)) (by decide) (fun _ _ _ _ _ => dg_one scWithout.nd 2)
        (fun _ _ _ _ _ x _ => pts_one (dt_ne (x := x) (y := thing) (dv' 2) (dv' 1))) (fun _ _ _ _ _ x _ _ => dv' 2) (fun x _ => trivial) (fun x _ _ => Imm.imm x) (Nat.le_trans hz (by decide)))))), .inl rfl⟩
    · exact ⟨_, db_one (ds_ret (dw_tuple (dn_w (dn_lc (t := .one 2) (own := [("one", 2)]) lot (fun x => D x) (fun x => decide (x ≠ thing)) (fun x => toD x) (di_listD (dv 0)) (blkOk_by (N := nWithout) (sc := defScope sWithout) (by decide +kernel)) (by decide) (fun _ _ _ _ _ => dg_one scWithout.nd 2)
        (fun _ _ _ _ _ x _ => pts_one (dt_ne (x := x) (y := thing) (dv' 2) (dv' 1))) (fun _ _ _ _ _ x _ _ => dv' 2) (fun x _ => trivial) (fun x _ _ => Imm.imm x) (Nat.le_trans hz (by decide)))))), .inl rfl⟩

theorem lotsF_len (ts : List Row) : (lotsF ts).length = 2 ^ ts.length := by
  have : ∀ (ts : List Row) (f : List Lot), (ts.foldl lotStep f).length = f.length * 2 ^ ts.length := by
    intro ts
    induction ts with
    | nil => intro f; simp
    | cons t ts ih =>
      intro f
      rw [List.foldl_cons, ih]
      unfold lotStep
      simp only [List.length_append, List.length_map, List.length_cons, Nat.pow_succ]
      rw [Nat.add_mul, Nat.mul_comm (2 ^ ts.length) 2, Nat.two_mul, Nat.mul_add]
  have h := this ts [Tup.mk []]
  simpa [lotsF] using h
theorem lotsF_mem (ts : List Row) : ∀ lot, lot ∈ lotsF ts → lot.items.length ≤ ts.length := by
  have : ∀ (ts : List Row) (f : List Lot) (n : Nat), (∀ lot, lot ∈ f → lot.items.length ≤ n) → ∀ lot, lot ∈ ts.foldl lotStep f → lot.items.length ≤ n + ts.length := by
    intro ts
    induction ts with
    | nil => intro f n h lot hl; simpa using h lot hl
    | cons t ts ih =>
      intro f n h lot hl
      rw [List.foldl_cons] at hl
      have := ih (lotStep f t) (n + 1) (fun l hl => by
        unfold lotStep at hl
        rcases List.mem_append.mp hl with hl | hl
        · have := h l hl; omega
        · obtain ⟨l', hl', rfl⟩ := List.mem_map.mp hl
          have := h l' hl'
          simp
          omega) lot hl
      simp only [List.length_cons]
      omega
  intro lot hl
  have := this ts [Tup.mk []] 0 (fun l hl => by rw [List.mem_singleton.mp hl]; exact Nat.le_refl _) lot hl
  omega
abbrev sLots : Stmt := top 21
abbrev nLots : List Str := ["things", "found", "thing", "lot"]
theorem scLots : FnScope nLots ["things"] (defScope sLots) := ⟨rfl, rfl, rfl, by decide +kernel, rfl, by decide +kernel, by decide +kernel⟩
def RLots (ds : List XD) (d : XD) : Prop := ∃ (ts : List Row), ds = [D ts] ∧ ts.length ≤ 7 ∧ d = D (lotsM ts)
theorem pow7 {n : Nat} (h : n ≤ 7) : 2 ^ n ≤ 128 := Nat.le_trans (Nat.pow_le_pow_right (by decide) h) (by decide)
theorem def_lots (gl : Glob G) {f : Addr} {fd : FuncData} (F : Fun G.K "lots_of" "lots_of" sLots f fd) (hm : G.mg "lots_of" = some (.ref f)) (b : Binds G.K fd ["things"] []) : Def G 1 "lots_of" RLots := by
  refine def_ok gl F scLots hm b (fun ds d h => ?_) fun cdv A outer s H E on ds d hR => ?_
  · obtain ⟨_, rfl, _⟩ := h
    rfl
  · obtain ⟨ts, rfl, hz, rfl⟩ := hR
    have hlen := lotsF_len ts
    have hp := pow7 hz
    refine ⟨_, db_cons (ds_set 1 (pv_own (dn_lst1 (α := Lot) (dw_tup0 Row)))) (db_cons (ds_for (t := .one 2) (di_listD (xs := ts) (dv 0)) (dg_one scLots.nd 2) (frun_ix (fun i => ⟨[some (.x (D ts)), some (.own (Ds (lotsF (ts.take i)))), none, none], false⟩) fun i dd hd => ?_) PassesOwn.never) (db_one (ds_ret (dn_w (dn_sortedLen (α := Row) (xs := lotsF (ts.take (ts.map fun x => D x).length)) (dvo 1) ?_ ?_))))), .inl ?_⟩
    · rw [List.getElem?_map] at hd
      obtain ⟨t, ht, rfl⟩ := Option.map_eq_some_iff.mp hd
      have et : ts.take (i + 1) = ts.take i ++ [t] := List.take_add_one.trans (by rw [ht]; rfl)
      have hli := lotsF_len (ts.take i)
      have hlt := (List.getElem?_eq_some_iff.mp ht).1
      have hpi := pow7 (n := (ts.take i).length) (by rw [List.length_take]; omega)
      refine ⟨trivial, _, db_one (ds_extend 1 (he := dn_lcM (t := .one 3) (own := [("lot", 3)]) (lotsF (ts.take i)) (fun x => D x) (fun lot => (Tup.mk (lot.items ++ [t]) : Lot)) (di_listD (dn_e (dn_copy (α := Lot) (dvo 1)))) (blkOk_by (N := nLots) (sc := defScope sLots) (by decide +kernel)) (by decide) (fun _ _ _ _ _ => dg_one scLots.nd 3)
        (fun _ _ _ _ _ lot hl => dw_starOne (xs := lot.items) (x := t) (dv' 3) (dv' 2) ?_) (fun x _ => trivial) (by omega)) (hz := by simp; omega)), ?_⟩
      · have := lotsF_mem _ lot hl
        rw [List.length_take] at this
        omega
      · have e : lotsF (ts.take (i + 1)) = lotsF (ts.take i) ++ (lotsF (ts.take i)).map fun lot => Tup.mk (lot.items ++ [t]) := by
          rw [et]
          unfold lotsF
          rw [List.foldl_append]
          rfl
        have e2 : Ds (lotsF (ts.take (i + 1))) = Ds (lotsF (ts.take i)) ++ Ds ((lotsF (ts.take i)).map fun lot => (Tup.mk (lot.items ++ [t]) : Lot)) := by rw [e]; exact List.map_append
        rw [e2]
        exact less_of
    · rw [List.length_map, List.take_length]; omega
    · intro x hx
      rw [List.length_map, List.take_length] at hx
      have := lotsF_mem _ x hx
      omega
    · rw [List.length_map, List.take_length]
      rfl
end
end RC

/-! RqB: plain law: lots and pairs. -/
namespace RC
open PySem.W (Datum DatumOrd Tup T3 minOf maxOf listLt)
theorem lotsF_app (ts : List Row) (t : Row) : lotsF (ts ++ [t]) = lotStep (lotsF ts) t := by
  unfold lotsF
  rw [List.foldl_append]
  rfl
theorem lotsF_sub : ∀ (n : Nat) (ts : List Row), ts.length = n → ∀ lot, lot ∈ lotsF ts ↔ lot.items.Sublist ts := by
  intro n
  induction n with
  | zero =>
    intro ts h lot
    have : ts = [] := List.eq_nil_of_length_eq_zero h
    subst this
    simp only [lotsF, List.foldl_nil, List.mem_singleton, List.sublist_nil]
    constructor
    · intro e; rw [e]
    · intro e; cases lot; simp only at e; rw [e]
  | succ n ih =>
    intro ts h lot
    rcases List.eq_nil_or_concat ts with e | ⟨init, t, e⟩
    · rw [e] at h; simp at h
    · rw [List.concat_eq_append] at e
      subst e
      have hn : init.length = n := by simpa using h
      rw [lotsF_app]
      unfold lotStep
      rw [List.mem_append, ih init hn lot]
      constructor
      · rintro (h1 | h1)
        · exact h1.trans (List.sublist_append_left _ _)
        · obtain ⟨l, hl, rfl⟩ := List.mem_map.mp h1
          exact List.Sublist.append ((ih init hn l).mp hl) (List.Sublist.refl _)
      · intro hs
        rcases List.sublist_append_iff.mp hs with ⟨l1, l2, e, s1, s2⟩
        rcases List.sublist_cons_iff.mp s2 with h3 | ⟨r, e3, h3⟩
        · have : l2 = [] := List.sublist_nil.mp h3
          subst this
          rw [List.append_nil] at e
          rw [e]
          exact .inl s1
        · have : r = [] := List.sublist_nil.mp h3
          subst this
          refine .inr (List.mem_map.mpr ⟨Tup.mk l1, (ih init hn _).mpr s1, ?_⟩)
          cases lot
          simp only at e
          rw [e, e3]
theorem lotsM_sub {ts : List Row} {lot : Lot} : lot ∈ lotsM ts ↔ lot.items.Sublist ts := by
  unfold lotsM
  rw [(List.mergeSort_perm _ _).mem_iff]
  exact lotsF_sub _ ts rfl lot
theorem lotsF_nodup : ∀ (n : Nat) (ts : List Row), ts.length = n → ts.Nodup → (lotsF ts).Nodup := by
  intro n
  induction n with
  | zero =>
    intro ts h _
    have : ts = [] := List.eq_nil_of_length_eq_zero h
    subst this
    simp [lotsF]
  | succ n ih =>
    intro ts h nd
    rcases List.eq_nil_or_concat ts with e | ⟨init, t, e⟩
    · rw [e] at h; simp at h
    · rw [List.concat_eq_append] at e
      subst e
      have hn : init.length = n := by simpa using h
      rw [lotsF_app]
      unfold lotStep
      have nd' := List.nodup_append.mp nd
      have h1 := ih init hn nd'.1
      refine List.nodup_append.mpr ⟨h1, ?_, fun a ha b hb e => ?_⟩
      · refine List.pairwise_map.mpr (h1.imp fun {a b} hne e => hne ?_)
        injection e with e
        have := List.append_cancel_right e
        cases a; cases b; simp only at this; rw [this]
      · obtain ⟨l, hl, rfl⟩ := List.mem_map.mp hb
        have hs := (lotsF_sub _ init rfl a).mp ha
        have : t ∈ a.items := by rw [e]; simp
        have := hs.subset this
        exact nd'.2.2 t this t (by simp) rfl
theorem lotsM_nodup {ts : List Row} (nd : ts.Nodup) : (lotsM ts).Nodup := (List.mergeSort_perm _ _).nodup_iff.mpr (lotsF_nodup _ ts rfl nd)
theorem lotsM_sorted (ts : List Row) : (lotsM ts).Pairwise fun a b => a.items.length ≤ b.items.length := by
  unfold lotsM
  have := List.pairwise_mergeSort (le := fun a b : Lot => decide (a.items.length ≤ b.items.length)) (fun a b c h1 h2 => by
    simp only [decide_eq_true_eq] at *
    omega) (fun a b => by
    simp only [Bool.or_eq_true, decide_eq_true_eq]
    omega) (lotsF ts)
  exact this.imp fun h => by simpa using h
theorem pairsM_mem {ts : List Row} {p : Lot × Row} : p ∈ pairsM ts ↔ p.1.items.Sublist ts ∧ p.2 ∈ ts ∧ p.2 ∉ p.1.items := by
  unfold pairsM
  rw [List.mem_flatMap]
  constructor
  · rintro ⟨lot, hl, h⟩
    obtain ⟨last, h2, rfl⟩ := List.mem_map.mp h
    obtain ⟨h3, h4⟩ := List.mem_filter.mp h2
    exact ⟨lotsM_sub.mp hl, h3, by simpa using h4⟩
  · rintro ⟨h1, h2, h3⟩
    exact ⟨p.1, lotsM_sub.mpr h1, List.mem_map.mpr ⟨p.2, List.mem_filter.mpr ⟨h2, by simpa using h3⟩, rfl⟩⟩
theorem pairsM_nodup {ts : List Row} (nd : ts.Nodup) : (pairsM ts).Nodup := by
  unfold pairsM
  refine List.pairwise_flatMap.mpr ⟨fun lot _ => ?_, (lotsM_nodup nd).imp fun {a b} hne x hx y hy => ?_⟩
  · refine List.pairwise_map.mpr ((nd.filter _).imp fun hne e => hne (by injection e))
  · obtain ⟨_, _, rfl⟩ := List.mem_map.mp hx
    obtain ⟨_, _, rfl⟩ := List.mem_map.mp hy
    exact fun e => hne (by injection e)
theorem pairsM_sorted (ts : List Row) : (pairsM ts).Pairwise fun a b => a.1.items.length ≤ b.1.items.length := by
  unfold pairsM
  refine List.pairwise_flatMap.mpr ⟨fun lot _ => ?_, (lotsM_sorted ts).imp fun {a b} h x hx y hy => ?_⟩
  · refine List.pairwise_map.mpr (List.pairwise_of_forall fun _ _ => Nat.le_refl _)
  · obtain ⟨_, _, rfl⟩ := List.mem_map.mp hx
    obtain ⟨_, _, rfl⟩ := List.mem_map.mp hy
    exact h
/-- what is shorter stands ahead -/
theorem pairsM_before {ts : List Row} {p q : Lot × Row} {i : Nat} (hp : (pairsM ts)[i]? = some p) (hq : q ∈ pairsM ts) (h : q.1.items.length < p.1.items.length) : q ∈ (pairsM ts).take i := by
  obtain ⟨j, hj⟩ := List.mem_iff_getElem?.mp hq
  have srt := pairsM_sorted ts
  have hji : j < i := by
    rcases Nat.lt_or_ge j i with h1 | h1
    · exact h1
    · exfalso
      rcases Nat.eq_or_lt_of_le h1 with e | h2
      · subst e
        rw [hp] at hj
        cases hj
        omega
      · obtain ⟨hi', ei⟩ := List.getElem?_eq_some_iff.mp hp
        obtain ⟨hj', ej⟩ := List.getElem?_eq_some_iff.mp hj
        have := List.pairwise_iff_getElem.mp srt i j hi' hj' h2
        rw [ei, ej] at this
        omega
  exact List.mem_iff_getElem?.mpr ⟨j, by rw [List.getElem?_take, if_pos hji]; exact hj⟩
theorem without_len {xs : List Row} {t : Row} (h : t ∈ xs) : (withoutM xs t).items.length < xs.length := by
  show (xs.filter _).length < xs.length
  rcases Nat.lt_or_eq_of_le (List.length_filter_le (fun x => decide (x ≠ t)) xs) with h1 | h1
  · exact h1
  · exfalso
    have := List.length_filter_eq_length_iff.mp h1 t h
    simp at this
theorem without_sub {ts : List Row} {lot : Lot} {t : Row} (h : lot.items.Sublist ts) : (withoutM lot.items t).items.Sublist ts := List.filter_sublist.trans h
theorem without_not {xs : List Row} {t : Row} : t ∉ (withoutM xs t).items := fun h => by
  have := (List.mem_filter.mp h).2
  simp at this
theorem rest_keys (costs : Costs) : ∀ (ps : List (Lot × Row)) (f : Rest), ((ps.foldl (restStep costs) f).map (·.1)) = f.map (·.1) ++ ps := by
  intro ps
  induction ps with
  | nil => intro f; simp
  | cons p ps ih =>
    intro f
    rw [List.foldl_cons, ih]
    unfold restStep
    simp
theorem look_isSome {α : Type} [DecidableEq α] {kvs : List (α × Int)} {k : α} (h : k ∈ kvs.map (·.1)) : (look kvs k).isSome = true := by
  unfold look
  rw [Option.isSome_map, List.find?_isSome]
  obtain ⟨p, hp, e⟩ := List.mem_map.mp h
  exact ⟨p, hp, by simpa using e⟩
theorem look_lk {α : Type} [DecidableEq α] {kvs : List (α × Int)} {k : α} (h : (look kvs k).isSome = true) : look kvs k = some (lk kvs k) := by
  unfold lk
  cases e : look kvs k with
  | none => rw [e] at h; cases h
  | some v => rfl
end RC

/-! RcZ: pairs_of, least_of, rest_of, least_cost. -/
namespace RC
open PySem L2
open PySem.W (Datum DatumOrd Tup T3 Holds HoldAll minOf maxOf EachIs)
section
variable {G : Gx}
theorem lotsM_len (ts : List Row) : (lotsM ts).length = 2 ^ ts.length := (List.mergeSort_perm _ _).length_eq.trans (lotsF_len ts)
theorem flat_len {α β : Type} (xs : List α) (ys : List β) : (xs.flatMap fun _ => ys).length = xs.length * ys.length := by
  induction xs with
  | nil => simp
  | cons x xs ih => rw [List.flatMap_cons, List.length_append, ih, List.length_cons, Nat.add_mul]; omega
abbrev sPairs : Stmt := top 23
abbrev nPairs : List Str := ["things", "lot", "last"]
theorem scPairs : FnScope nPairs ["things"] (defScope sPairs) := ⟨rfl, rfl, rfl, by decide +kernel, rfl, by decide +kernel, by decide +kernel⟩
def RPairs (ds : List XD) (d : XD) : Prop := ∃ (ts : List Row), ds = [D ts] ∧ ts.length ≤ 7 ∧ d = D (pairsM ts)
theorem def_pairs (gl : Glob G) (F1 : Def G 1 "lots_of" RLots) {f : Addr} {fd : FuncData} (F : Fun G.K "pairs_of" "pairs_of" sPairs f fd) (hm : G.mg "pairs_of" = some (.ref f)) (b : Binds G.K fd ["things"] []) : Def G 2 "pairs_of" RPairs := by
  refine def_ok gl F scPairs hm b (fun ds d h => ?_) fun cdv A outer s H E on ds d hR => ?_
  · obtain ⟨_, rfl, _⟩ := h
    rfl
  · obtain ⟨ts, rfl, hz, rfl⟩ := hR
    refine ⟨_, db_one (ds_ret (dn_w (dn_lc2T (t := .one 1) (t1 := .one 2) (own := [("lot", 1), ("last", 2)]) (lotsM ts) (fun x => D x) (fun _ => ts) (fun y => D y) (fun lot last => decide (last ∉ lot.items)) (fun lot last => (lot, last)) [2]
      (di_listD (de_pu (dw_call F1 (da_one (dv' 0)) ⟨ts, rfl, hz, rfl⟩) rfl)) (blkOk_by (N := nPairs) (sc := defScope sPairs) (by decide +kernel)) (by decide) (by decide) (by decide) (fun _ _ _ _ _ => dg_one scPairs.nd 1) (fun _ _ _ _ _ => dg_one scPairs.nd 2)
      (fun _ _ _ _ _ x _ => di_listD (dv 0)) (fun _ _ _ _ _ x y _ _ => pts_t (dt_ninT (x := y) (ys := x.items) (dv' 2) (dv' 1))) (fun _ _ _ _ _ x y _ _ _ => dw_pair (dv' 1) (dv' 2)) (fun _ _ => trivial) (fun _ _ _ _ => trivial) ?_))), .inl rfl⟩
    rw [flat_len, lotsM_len]
    have := pow7 hz
    have : 2 ^ ts.length * ts.length ≤ 128 * 7 := Nat.mul_le_mul this hz
    omega

abbrev sLeast : Stmt := top 24
abbrev nLeast : List Str := ["lot", "last", "costs", "rest", "thing"]
theorem scLeast : FnScope nLeast ["lot", "last", "costs", "rest"] (defScope sLeast) := ⟨rfl, rfl, rfl, by decide +kernel, rfl, by decide +kernel, by decide +kernel⟩
def RLeast (ds : List XD) (d : XD) : Prop := ∃ (lot : Lot) (last : Row) (costs : Costs) (rest : Rest), ds = [D lot, D last, Dd costs, Dd rest] ∧ lot.items.length ≤ 7 ∧ (∀ t, t ∈ lot.items → (look costs (last, t)).isSome = true ∧ (look rest (withoutM lot.items t, t)).isSome = true) ∧ d = .dat (.int (leastM lot last costs rest))
theorem dw_minM {X : Cx} {lv : Nat} {r : DEnv} {a : Expr} {p pos : Pos} [o : On G X lv] {xs : List Int} (ha : DW G X a r (D xs)) (hne : xs ≠ []) (hg : Gl X "min" := by rfl) (he : starEach [a] X.env = [(false, eval a X.env)] := by rfl) (hpl : (backTo pos (starEach [] X.env)).any (·.1) = false := by rfl) :
    DW G X (.Call (.Name "min" p) [a] [] pos) r (.dat (.int (minM xs))) := by
  cases xs with
  | nil => exact absurd rfl hne
  | cons x xs => exact dw_min (x := x) (xs := xs) ha (by decide) hg he hpl
theorem def_least (gl : Glob G) (F1 : Def G 1 "without" RWith) {f : Addr} {fd : FuncData} (F : Fun G.K "least_of" "least_of" sLeast f fd) (hm : G.mg "least_of" = some (.ref f)) (b : Binds G.K fd ["lot", "last", "costs", "rest"] []) : Def G 2 "least_of" RLeast := by
  refine def_ok gl F scLeast hm b (fun ds d h => ?_) fun cdv A outer s H E on ds d hR => ?_
  · obtain ⟨_, _, _, _, rfl, _⟩ := h
    rfl
  · obtain ⟨lot, last, costs, rest, rfl, hz, hl, rfl⟩ := hR
    refine ⟨_, db_one (ds_ret (dw_if (dt_ne (x := lot) (y := (Tup.mk [] : Lot)) (dv' 0) (dw_tup0 Row)) (fun hk => dw_minM (xs := lot.items.map fun t => lk costs (last, t) + lk rest (withoutM lot.items t, t)) (dn_w (dn_lcM (t := .one 4) (own := [("thing", 4)]) lot.items (fun x => D x) (fun t => lk costs (last, t) + lk rest (withoutM lot.items t, t)) (di_tupD (dv 0)) (blkOk_by (N := nLeast) (sc := defScope sLeast) (by decide +kernel)) (by decide) (fun _ _ _ _ _ => dg_one scLeast.nd 4)
      (fun _ _ _ _ _ t ht => dw_add (dw_dget (kvs := costs) (k := (last, t)) (dv' 2) (dw_pair (dv' 1) (dv' 4)) (look_lk (hl t ht).1)) (dw_dget (kvs := rest) (k := (withoutM lot.items t, t)) (dv' 3) (dw_pair (dw_call F1 (da_cons (dv' 0) (da_one (dv' 4))) ⟨lot.items, t, .inl rfl, rfl, by omega⟩) (dv' 4)) (look_lk (hl t ht).2))) (fun _ _ => trivial) (by omega))) ?_) (fun hk => ?_))), .inl rfl⟩
    · intro e
      have : lot.items = [] := List.map_eq_nil_iff.mp e
      simp at hk
      exact hk (by cases lot; simp only at this; rw [this])
    · simp at hk
      subst hk
      exact dc_int

abbrev sRest : Stmt := top 25
abbrev nRest : List Str := ["things", "costs", "found", "lot", "last"]
theorem scRest : FnScope nRest ["things", "costs"] (defScope sRest) := ⟨rfl, rfl, rfl, by decide +kernel, rfl, by decide +kernel, by decide +kernel⟩
def RRest (ds : List XD) (d : XD) : Prop := ∃ (ts : List Row) (costs : Costs), ds = [D ts, Dd costs] ∧ ts.length ≤ 7 ∧ ts.Nodup ∧ (∀ a b, a ∈ ts → b ∈ ts → a ≠ b → (look costs (a, b)).isSome = true) ∧ d = Dd (restM ts costs)
theorem def_rest (gl : Glob G) (F1 : Def G 2 "pairs_of" RPairs) (F2 : Def G 2 "least_of" RLeast) {f : Addr} {fd : FuncData} (F : Fun G.K "rest_of" "rest_of" sRest f fd) (hm : G.mg "rest_of" = some (.ref f)) (b : Binds G.K fd ["things", "costs"] []) : Def G 3 "rest_of" RRest := by
  refine def_ok gl F scRest hm b (fun ds d h => ?_) fun cdv A outer s H E on ds d hR => ?_
  · obtain ⟨_, _, rfl, _⟩ := h
    rfl
  · obtain ⟨ts, costs, rfl, hz, nd, hc, rfl⟩ := hR
    have plen : (pairsM ts).length ≤ 1000 := by
      have h1 : (pairsM ts).length ≤ ((lotsM ts).flatMap fun _ => ts).length := by
        unfold pairsM
        generalize lotsM ts = ls
        induction ls with
        | nil => simp
        | cons l ls ih =>
          rw [List.flatMap_cons, List.flatMap_cons, List.length_append, List.length_append, List.length_map]
          have := List.length_filter_le (fun last => decide (last ∉ l.items)) ts
          omega
      rw [flat_len, lotsM_len] at h1
      have := pow7 hz
      have : 2 ^ ts.length * ts.length ≤ 128 * 7 := Nat.mul_le_mul this hz
      omega
    have e0 : (pairsM ts).take ((pairsM ts).map fun x => D x).length = pairsM ts := by rw [List.length_map, List.take_length]
    refine ⟨_, db_cons (ds_set 2 pv_dict) (db_cons (ds_for (t := .tup [3, 4]) (di_listD (xs := pairsM ts) (de_call F1 (dae_one (dv 0)) ⟨ts, rfl, hz, rfl⟩)) (dg_tup rfl (dg_cons scRest.nd 3 (dg_cons scRest.nd 4 dg_nil))) (frun_ix (fun i => ⟨[some (.x (D ts)), some (.x (Dd costs)), some (.ownD (dk (((pairsM ts).take i).foldl (restStep costs) []))), none, none], false⟩) fun i dd hd => ?_) PassesOwn.never) (db_one (ds_ret (dvd 2)))), .inl ?_⟩
    · rw [List.getElem?_map] at hd
      obtain ⟨p, hp, rfl⟩ := Option.map_eq_some_iff.mp hd
      obtain ⟨lot, last⟩ := p
      have et : (pairsM ts).take (i + 1) = (pairsM ts).take i ++ [(lot, last)] := List.take_add_one.trans (by rw [hp]; rfl)
      obtain ⟨s1, s2, s3⟩ := pairsM_mem.mp (List.mem_of_getElem? hp)
      have hll : lot.items.length ≤ 7 := Nat.le_trans s1.length_le hz
      have keys := rest_keys costs ((pairsM ts).take i) []
      generalize hf : ((pairsM ts).take i).foldl (restStep costs) [] = found at keys
      have hfl : found.length ≤ 1000 := by
        have := congrArg List.length keys
        simp only [List.length_map, List.map_nil, List.nil_append, List.length_take] at this
        omega
      have hnew : look found (lot, last) = none := look_none (by
        rw [keys]
        intro hm'
        have nd' := pairsM_nodup nd
        rw [← List.take_append_drop (i + 1) (pairsM ts), et] at nd'
        have := (List.nodup_append.mp (List.nodup_append.mp nd').1).2.2 (lot, last) (by simpa using hm') (lot, last) (by simp)
        exact this rfl)
      have hlook : ∀ t, t ∈ lot.items → (look costs (last, t)).isSome = true ∧ (look found (withoutM lot.items t, t)).isSome = true := fun t ht => by
        refine ⟨hc last t s2 (s1.subset ht) (fun e => s3 (e ▸ ht)), look_isSome ?_⟩
        rw [keys]
        exact pairsM_before hp (pairsM_mem.mpr ⟨without_sub s1, s1.subset ht, without_not⟩) (without_len ht)
      refine ⟨rfl, _, db_one (ds_dput (α := Lot × Row) (kvs := found) (k := (lot, last)) (n := leastM lot last costs found) 2 (hb := dw_pair (dv' 3) (dv' 4)) (he := dw_call F2 (da_cons (dv' 3) (da_cons (dv' 4) (da_cons (dv' 1) (da_one (dvd 2))))) ⟨lot, last, costs, found, rfl, hll, hlook, rfl⟩) (hnew := hnew) (hz := by omega)), ?_⟩
      have e1 : ((pairsM ts).take (i + 1)).foldl (restStep costs) [] = found ++ [((lot, last), leastM lot last costs found)] := by
        rw [et, List.foldl_append, hf]
        rfl
      rw [e1]
      exact less_of
    · unfold restM
      rw [e0]

abbrev sLCost : Stmt := top 26
abbrev nLCost : List Str := ["things", "rest", "thing"]
theorem scLCost : FnScope nLCost ["things", "rest"] (defScope sLCost) := ⟨rfl, rfl, rfl, by decide +kernel, rfl, by decide +kernel, by decide +kernel⟩
def RLCost (ds : List XD) (d : XD) : Prop := ∃ (ts : List Row) (rest : Rest), ds = [D ts, Dd rest] ∧ ts ≠ [] ∧ ts.length ≤ 7 ∧ (∀ t, t ∈ ts → (look rest (withoutM ts t, t)).isSome = true) ∧ d = .dat (.int (leastCostM ts rest))
theorem def_lCost (gl : Glob G) (F1 : Def G 1 "without" RWith) {f : Addr} {fd : FuncData} (F : Fun G.K "least_cost" "least_cost" sLCost f fd) (hm : G.mg "least_cost" = some (.ref f)) (b : Binds G.K fd ["things", "rest"] []) : Def G 2 "least_cost" RLCost := by
  refine def_ok gl F scLCost hm b (fun ds d h => ?_) fun cdv A outer s H E on ds d hR => ?_
  · obtain ⟨_, _, rfl, _⟩ := h
    rfl
  · obtain ⟨ts, rest, rfl, hne, hz, hl, rfl⟩ := hR
    refine ⟨_, db_one (ds_ret (dw_minM (xs := ts.map fun t => lk rest (withoutM ts t, t)) (dn_w (dn_lcM (t := .one 2) (own := [("thing", 2)]) ts (fun x => D x) (fun t => lk rest (withoutM ts t, t)) (di_listD (dv 0)) (blkOk_by (N := nLCost) (sc := defScope sLCost) (by decide +kernel)) (by decide) (fun _ _ _ _ _ => dg_one scLCost.nd 2)
      (fun _ _ _ _ _ t ht => dw_dget (kvs := rest) (k := (withoutM ts t, t)) (dv' 1) (dw_pair (dw_call F1 (da_cons (dv' 0) (da_one (dv' 2))) ⟨ts, t, .inr rfl, rfl, by omega⟩) (dv' 2)) (look_lk (hl t ht))) (fun _ _ => trivial) (by omega))) ?_)), .inl rfl⟩
    exact fun e => hne (List.map_eq_nil_iff.mp e)
end
end RC

/-! RdA: orderings: mirrors, small defs. -/
namespace RC
open PySem L2
open PySem.W (Datum DatumOrd Tup T3 Holds HoldAll minOf maxOf EachIs)
abbrev Tie := Row × Row
/-! ### mirrors -/
def costsM (Dr : List Row) (pr : Row) : Costs := Dr.flatMap fun a => (Dr.filter fun b => decide (a ≠ b)).map fun b => ((a, b), apartM a b pr)
def isTieM (rows : List Row) (t : Tie) : Bool := decide (t.1 ∈ rows) && (decide (t.2 ∈ rows) && DatumOrd.lt t.1 t.2)
/-- one tie looked at from one row -/
def joinStep (one : Row) (st : List Row × List Row) (t : Tie) : List Row × List Row :=
  let other := if t.1 = one then t.2 else t.1
  if one ∈ [t.1, t.2] ∧ other ∉ st.1 then (st.1 ++ [other], st.2 ++ [other]) else st
inductive JRun (ties : List Tie) : List Row → List Row → List Row → Prop where
  | done {f : List Row} : JRun ties f [] f
  | turn {f m out : List Row} {one : Row} (h : JRun ties (ties.foldl (joinStep one) (f, m)).1 (ties.foldl (joinStep one) (f, m)).2 out) : JRun ties f (m ++ [one]) out
def joinGo (ties : List Tie) : Nat → List Row → List Row → List Row
  | 0, f, _ => f
  | n + 1, f, m => match m.getLast? with
    | none => f
    | some one => joinGo ties n (ties.foldl (joinStep one) (f, m.dropLast)).1 (ties.foldl (joinStep one) (f, m.dropLast)).2
def joinedM (ties : List Tie) (row : Row) : List Row := joinGo ties (2 * ties.length + 2) [row] [row]

/-- one step keeps: no doubles, the places, what is still to be done -/
theorem joinStep_keeps {one : Row} {L : List Row} {t : Tie} (h1 : t.1 ∈ L) (h2 : t.2 ∈ L) {st : List Row × List Row} (nd : st.1.Nodup) (sub : ∀ x, x ∈ st.1 → x ∈ L) :
    (joinStep one st t).1.Nodup ∧ (∀ x, x ∈ (joinStep one st t).1 → x ∈ L) ∧ (joinStep one st t).1.length + st.2.length = (joinStep one st t).2.length + st.1.length := by
  unfold joinStep
  simp only []
  by_cases hc : one ∈ [t.1, t.2] ∧ (if t.1 = one then t.2 else t.1) ∉ st.1
  · rw [if_pos hc]
    have ho : (if t.1 = one then t.2 else t.1) ∈ L := by split <;> assumption
    refine ⟨List.nodup_append.mpr ⟨nd, by simp, fun a ha b hb e => ?_⟩, fun x hx => ?_, by simp; omega⟩
    · rw [List.mem_singleton.mp hb] at e
      exact hc.2 (e ▸ ha)
    · rcases List.mem_append.mp hx with hx | hx
      · exact sub x hx
      · rw [List.mem_singleton.mp hx]; exact ho
  · rw [if_neg hc]
    exact ⟨nd, sub, by omega⟩
theorem joinFold_keeps {one : Row} {L : List Row} : ∀ {ties : List Tie}, (∀ t, t ∈ ties → t.1 ∈ L ∧ t.2 ∈ L) → ∀ {st : List Row × List Row}, st.1.Nodup → (∀ x, x ∈ st.1 → x ∈ L) →
    (ties.foldl (joinStep one) st).1.Nodup ∧ (∀ x, x ∈ (ties.foldl (joinStep one) st).1 → x ∈ L) ∧ (ties.foldl (joinStep one) st).1.length + st.2.length = (ties.foldl (joinStep one) st).2.length + st.1.length
  | [], _, st, nd, sub => ⟨nd, sub, by simp; omega⟩
  | t :: ties, h, st, nd, sub => by
    obtain ⟨h1, h2⟩ := h t List.mem_cons_self
    obtain ⟨a1, a2, a3⟩ := joinStep_keeps (one := one) h1 h2 nd sub
    obtain ⟨b1, b2, b3⟩ := joinFold_keeps (one := one) (ties := ties) (fun t' ht' => h t' (List.mem_cons_of_mem _ ht')) a1 a2
    rw [List.foldl_cons]
    exact ⟨b1, b2, by omega⟩
theorem nodup_le {α : Type} [DecidableEq α] : ∀ {l L : List α}, l.Nodup → (∀ x, x ∈ l → x ∈ L) → l.length ≤ L.length
  | [], _, _, _ => Nat.zero_le _
  | x :: l, L, nd, sub => by
    have nd' := List.nodup_cons.mp nd
    have hx := sub x List.mem_cons_self
    have := nodup_le (l := l) (L := L.erase x) nd'.2 fun y hy => by
      have ne : y ≠ x := fun e => nd'.1 (e ▸ hy)
      exact (List.mem_erase_of_ne ne).mpr (sub y (List.mem_cons_of_mem _ hy))
    rw [List.length_erase_of_mem hx] at this
    have pos := List.length_pos_of_mem hx
    rw [List.length_cons]
    omega
theorem joinGo_run {ties : List Tie} {L : List Row} (hL : ∀ t, t ∈ ties → t.1 ∈ L ∧ t.2 ∈ L) : ∀ (n : Nat) (f m : List Row), f.Nodup → (∀ x, x ∈ f → x ∈ L) → (L.length - f.length) + m.length ≤ n → JRun ties f m (joinGo ties n f m) ∧ (joinGo ties n f m).Nodup ∧ (∀ x, x ∈ joinGo ties n f m → x ∈ L) := by
  intro n
  induction n with
  | zero =>
    intro f m nd sub h
    have : m = [] := List.eq_nil_of_length_eq_zero (by omega)
    subst this
    exact ⟨.done, nd, sub⟩
  | succ n ih =>
    intro f m nd sub h
    rcases List.eq_nil_or_concat m with e | ⟨init, one, e⟩
    · subst e
      exact ⟨.done, nd, sub⟩
    · rw [List.concat_eq_append] at e
      subst e
      have e1 : (init ++ [one]).getLast? = some one := by simp
      have e2 : (init ++ [one]).dropLast = init := List.dropLast_concat
      simp only [joinGo, e1, e2]
      obtain ⟨a1, a2, a3⟩ := joinFold_keeps (one := one) hL (st := (f, init)) nd sub
      have l1 := nodup_le a1 a2
      have l0 := nodup_le nd sub
      simp only at a3
      have := ih _ (ties.foldl (joinStep one) (f, init)).2 a1 a2 (by simp at h; omega)
      exact ⟨.turn this.1, this.2⟩
theorem joined_run (ties : List Tie) (row : Row) : JRun ties [row] [row] (joinedM ties row) ∧ (joinedM ties row).Nodup ∧ (joinedM ties row).length ≤ 2 * ties.length + 1 := by
  let L := row :: ties.flatMap fun t => [t.1, t.2]
  have hl : L.length = 2 * ties.length + 1 := by
    show (ties.flatMap fun t => [t.1, t.2]).length + 1 = _
    congr 1
    induction ties with
    | nil => rfl
    | cons t ts ih => rw [List.flatMap_cons, List.length_append]; simp at ih ⊢; omega
  have hL : ∀ t, t ∈ ties → t.1 ∈ L ∧ t.2 ∈ L := fun t ht => ⟨List.mem_cons_of_mem _ (List.mem_flatMap.mpr ⟨t, ht, by simp⟩), List.mem_cons_of_mem _ (List.mem_flatMap.mpr ⟨t, ht, by simp⟩)⟩
  obtain ⟨h1, h2, h3⟩ := joinGo_run hL (2 * ties.length + 2) [row] [row] (by simp) (fun x hx => by rw [List.mem_singleton.mp hx]; exact List.mem_cons_self) (by simp only [List.length_singleton]; omega)
  exact ⟨h1, h2, hl ▸ nodup_le h2 h3⟩
theorem joinFold_len {one : Row} : ∀ (ties : List Tie) (st : List Row × List Row), st.1.length ≤ (ties.foldl (joinStep one) st).1.length
  | [], st => Nat.le_refl _
  | t :: ties, st => by
    rw [List.foldl_cons]
    refine Nat.le_trans ?_ (joinFold_len ties _)
    unfold joinStep
    by_cases hc : one ∈ [t.1, t.2] ∧ (if t.1 = one then t.2 else t.1) ∉ st.1
    · rw [if_pos hc]
      simp
    · rw [if_neg hc]
      exact Nat.le_refl _
theorem JRun.len {ties : List Tie} {f m out : List Row} (h : JRun ties f m out) : f.length ≤ out.length := by
  induction h with
  | done => exact Nat.le_refl _
  | @turn f m out one _ ih => exact Nat.le_trans (joinFold_len ties (f, m)) ih

def wayM (ties : List Tie) (a b : Row) : List Tie := ties.filter fun t => decide (b ∉ joinedM (ties.filter fun l => decide (l ≠ t)) a)
def fairM (ties : List Tie) (costs : Costs) (a b : Row) : Bool := ((wayM ties a b).map fun t => decide (lk costs t ≤ lk costs (a, b))).all id
def upM (Dr : List Row) : List Tie := out2 Dr (fun _ => Dr) (fun a b => DatumOrd.lt a b) fun a b => (a, b)
def showsM (ties : List Tie) (Dr : List Row) (pr : Row) : Bool :=
  if (decide ((ties.length : Int) ≠ (Dr.length : Int) - 1) || !((ties.map fun t => isTieM Dr t).all id)) = true then false
  else if decide (((joinedM ties (Dr.headD (Tup.mk []))).length : Int) ≠ (Dr.length : Int)) = true then false
  else (out2 Dr (fun _ => Dr) (fun a b => DatumOrd.lt a b) fun a b => fairM ties (costsM Dr pr) a b).all id
def krStep (found : List Tie) (q : T3 Int Row Row) : List Tie := if q.c ∉ joinedM found q.b then found ++ [(q.b, q.c)] else found
def krPairs (Dr : List Row) (costs : Costs) : List (T3 Int Row Row) := sortD (out2 Dr (fun _ => Dr) (fun a b => DatumOrd.lt a b) fun a b => T3.mk (lk costs (a, b)) a b)
def treeM (Dr : List Row) (pr : Row) : List Tie := sortD ((krPairs Dr (costsM Dr pr)).foldl krStep [])
def worthM (ties : List Tie) (pr : Row) : Int := (ties.map fun t => apartM t.1 t.2 pr).sum
end RC

/-! RdB: orderings: the small defs. -/
namespace RC
open PySem L2
open PySem.W (Datum DatumOrd Tup T3 Holds HoldAll minOf maxOf EachIs)
section
variable {G : Gx}
def bdf (i : Nat) : Stmt := match top 29 with
  | .ClassDef (body := b) .. => b.getD i (.Pass ⟨0, 0, 0, 0⟩)
  | _ => .Pass ⟨0, 0, 0, 0⟩
abbrev sInitB : Stmt := bdf 0
abbrev nInitB : List Str := ["self", "ties"]
theorem scInitB : FnScope nInitB ["self", "ties"] (defScope sInitB) := ⟨rfl, rfl, rfl, by decide +kernel, rfl, by decide +kernel, by decide +kernel⟩
theorem mk_bound (gl : Glob G) {f : Addr} {fd : FuncData} (F : Fun G.K "__init__" "Bound.__init__" sInitB f fd) (M : Mk G.K G.CB f) (b : Binds G.K fd ["self", "ties"] []) : MkB G 1 := by
  refine ⟨f, fd, _, F.ok scInitB (fun vs H Q E h => ?_) (fun cdv A outer s H vs Q E hr h => ?_), M, b⟩
  · obtain ⟨x, dx, v, ts, rfl, _⟩ := h
    rfl
  · obtain ⟨x, dx, v, ts, rfl, hx, hv, him, kont⟩ := h
    have on : On G (Bx G nInitB "Bound.__init__" sInitB f cdv A outer s H E) 0 := on_bx gl scInitB.nd hr
    have fit : Fit G [] H (L2.start nInitB [.ref x, v]) (startE nInitB.length [.new false x dx, .dat (.list ts)]) := fit_start (.cons ⟨rfl, hx⟩ (.cons hv .nil)) (by simp)
    have body : DB G (Bx G nInitB "Bound.__init__" sInitB f cdv A outer s H E) (defBody sInitB) (startE nInitB.length [.new false x dx, .dat (.list ts)]) (.fin (finB G x dx ts)) :=
      db_one (ds_fldTies 0 (he := dn_list (dv' 1) him))
    refine ⟨_, body H, ⟨⟨Gr.refl H, [], fit, fun a ha => by cases ha⟩, fun σ H' ⟨H1, l, xs, g1, hx1, e, h6, h7, h8⟩ => ?_⟩⟩
    subst e
    have hxl : x ≠ l := fun z => by rw [← z, hx1] at h7; cases h7
    refine kont _ l xs (fun bb o nb hb => ?_) upd_same h6 ?_ (dps_tk (tk_ins hx1) _ _ him h8)
    · rw [upd_ne nb]
      exact g1 _ _ hb
    · rw [upd_ne (Ne.symm hxl)]
      exact h7
abbrev sEqB : Stmt := bdf 1
theorem scEqB : FnScope ["self", "other"] ["self", "other"] (defScope sEqB) := ⟨rfl, rfl, rfl, by decide +kernel, rfl, by decide +kernel, by decide +kernel⟩
def REq (ds : List XD) (d : XD) : Prop := ∃ (xs ys : List Tie), ds = [.bnd (Ds xs), .bnd (Ds ys)] ∧ d = .dat (.bool (decide (xs = ys)))
theorem eq_bound (gl : Glob G) {f : Addr} {fd : FuncData} (F : Fun G.K "__eq__" "Bound.__eq__" sEqB f fd) (h1 : PySem.W.findIn G.K (.ref G.CB) "__eq__" = some (some (.ref f))) (h2 : PySem.W.isFn G.K (.ref f) = true) (b : Binds G.K fd ["self", "other"] []) : DefEq G 1 REq := by
  refine ⟨f, fd, _, fn_ok gl F scEqB (fun ds d h => ?_) (fun cdv A outer s H E on ds d hR => ?_), h1, h2, b⟩
  · obtain ⟨_, _, rfl, _⟩ := h
    rfl
  · obtain ⟨xs, ys, rfl, rfl⟩ := hR
    exact ⟨_, db_one (ds_ret (dw_and (dw_isiBound (dv' 1)) fun _ => dw_one (dw_eq (x := xs) (y := ys) (dw_ties (dv' 0)) (dw_ties (dv' 1))))), .inl (by simp)⟩

section
variable {X : Cx} {lv : Nat} {r : DEnv} {e : Expr} {pos : Pos} {d : XD}
theorem ds_expr (h : DW G X e r d) (hs : swapsWith e none pos.line X.env = pure false := by rfl) : DS G X (.Expr e pos) r (.nx r) := fun B =>
  liftS (ps_expr h hs) fun D σ H ⟨⟨gB, O, f, hO⟩, k⟩ => ⟨O, f, fun v H1 g1 _ => k _ _ ⟨gB.trans g1, O, f.gr g1, hO⟩⟩
end
abbrev sFew : Stmt := top 30
theorem scFew : FnScope ["table", "prices"] ["table", "prices"] (defScope sFew) := ⟨rfl, rfl, rfl, by decide +kernel, rfl, by decide +kernel, by decide +kernel⟩
theorem def_few (gl : Glob G) (nm : Nums G) (F1 : Def G 1 "check_table" RCkT) (F2 : Def G 3 "check_prices" RCkP) (F3 : DefT G 1 "different" RDiff) {f : Addr} {fd : FuncData} (F : Fun G.K "check_few" "check_few" sFew f fd) (hm : G.mg "check_few" = some (.ref f)) (b : Binds G.K fd ["table", "prices"] []) : Def G 4 "check_few" RCkP := by
  refine def_ok gl F scFew hm b (fun ds d h => ?_) fun cdv A outer s H E on ds d hR => ?_
  · obtain ⟨_, _, _, _, rfl, _⟩ := h
    rfl
  · obtain ⟨rows, Dr, w, pr, rfl, T, P, rfl⟩ := hR
    refine ⟨_, db_cons (ds_expr (dw_call F1 (da_one (dv' 0)) ⟨rows, rfl, rfl⟩)) (db_cons (ds_expr (dw_call F2 (da_cons (dv' 0) (da_one (dv' 1))) ⟨rows, Dr, w, pr, rfl, T, P, rfl⟩)) (db_one (ds_skip (dt_gtI (dw_len (α := Row × Int) (dw_methT0 F3 (dv' 0) ⟨rows, Dr, w, rfl, T, rfl⟩)) (dg_num nm.diff)) ?_))), .inr ⟨⟨_, rfl⟩, rfl⟩⟩
    have := T.few7
    simp
    omega
abbrev sRows : Stmt := top 31
abbrev nRows : List Str := ["table", "row", "many"]
theorem scRows : FnScope nRows ["table"] (defScope sRows) := ⟨rfl, rfl, rfl, by decide +kernel, rfl, by decide +kernel, by decide +kernel⟩
def RRows (ds : List XD) (d : XD) : Prop := ∃ (rows Dr : List Row) (w : Nat), ds = [.tab rows] ∧ TabOk rows Dr w ∧ d = D Dr
theorem def_rows (gl : Glob G) (F3 : DefT G 1 "different" RDiff) {f : Addr} {fd : FuncData} (F : Fun G.K "rows_of" "rows_of" sRows f fd) (hm : G.mg "rows_of" = some (.ref f)) (b : Binds G.K fd ["table"] []) : Def G 2 "rows_of" RRows := by
  refine def_ok gl F scRows hm b (fun ds d h => ?_) fun cdv A outer s H E on ds d hR => ?_
  · obtain ⟨_, _, _, rfl, _⟩ := h
    rfl
  · obtain ⟨rows, Dr, w, rfl, T, rfl⟩ := hR
    refine ⟨_, db_one (ds_ret (dn_w (dn_lcM (t := .tup [1, 2]) (own := [("row", 1), ("many", 2)]) (Dr.map fun x => (x, countM rows x)) (fun x => D x) (fun q => q.1) (di_listD (de_pu (dw_methT0 F3 (dv' 0) ⟨rows, Dr, w, rfl, T, rfl⟩) rfl)) (blkOk_by (N := nRows) (sc := defScope sRows) (by decide +kernel)) (by decide) (fun _ _ _ _ _ => dg_tup rfl (dg_cons scRows.nd 1 (dg_cons scRows.nd 2 dg_nil)))
      (fun _ _ _ _ _ x _ => dv' 1) (fun x _ => rfl) (by have := T.few7; simp; omega)))), .inl ?_⟩
    rw [List.map_map]
    have : (Prod.fst ∘ fun x => (x, countM rows x)) = (id : Row → Row) := rfl
    show Out.rt (D (Dr.map (Prod.fst ∘ fun x => (x, countM rows x)))) = _
    rw [this, List.map_id]
theorem costs_keys {Dr : List Row} {pr : Row} (nd : Dr.Nodup) : ((costsM Dr pr).map (·.1)).Nodup := by
  unfold costsM
  rw [List.map_flatMap]
  refine List.pairwise_flatMap.mpr ⟨fun a _ => ?_, nd.imp fun {a b} hne x hx y hy => ?_⟩
  · rw [List.map_map]
    exact List.pairwise_map.mpr ((nd.filter _).imp fun hne e => hne (by injection e))
  · rw [List.map_map] at hx hy
    obtain ⟨_, _, rfl⟩ := List.mem_map.mp hx
    obtain ⟨_, _, rfl⟩ := List.mem_map.mp hy
    exact fun e => hne (by injection e)
theorem costs_look {Dr : List Row} {pr : Row} (nd : Dr.Nodup) {a b : Row} (ha : a ∈ Dr) (hb : b ∈ Dr) (hne : a ≠ b) : look (costsM Dr pr) (a, b) = some (apartM a b pr) := by
  have hmem : ((a, b), apartM a b pr) ∈ costsM Dr pr := List.mem_flatMap.mpr ⟨a, ha, List.mem_map.mpr ⟨b, List.mem_filter.mpr ⟨hb, by simpa using hne⟩, rfl⟩⟩
  have h1 := look_isSome (kvs := costsM Dr pr) (List.mem_map.mpr ⟨_, hmem, rfl⟩ : (a, b) ∈ (costsM Dr pr).map (·.1))
  unfold look at h1 ⊢
  rw [Option.isSome_map] at h1
  obtain ⟨p, hp⟩ := Option.isSome_iff_exists.mp h1
  rw [hp]
  have e1 : p.1 = (a, b) := by simpa using List.find?_some hp
  have e2 := List.mem_of_find?_eq_some hp
  unfold costsM at e2
  obtain ⟨a', _, h2⟩ := List.mem_flatMap.mp e2
  obtain ⟨b', _, rfl⟩ := List.mem_map.mp h2
  simp only [Prod.mk.injEq] at e1
  obtain ⟨rfl, rfl⟩ := e1
  rfl
theorem filt_len {α β : Type} (xs : List α) (ys : List β) (p : α → β → Bool) {γ : Type} (f : α → β → γ) : (xs.flatMap fun x => (ys.filter (p x)).map (f x)).length ≤ xs.length * ys.length := by
  induction xs with
  | nil => simp
  | cons x xs ih =>
    rw [List.flatMap_cons, List.length_append, List.length_map, List.length_cons, Nat.add_mul]
    have := List.length_filter_le (p x) ys
    omega
theorem mul7 {a b : Nat} (h1 : a ≤ 7) (h2 : b ≤ 7) : a * b ≤ 49 := Nat.mul_le_mul h1 h2
abbrev sCosts : Stmt := top 32
abbrev nCosts : List Str := ["table", "prices", "rows", "one", "other"]
theorem scCosts : FnScope nCosts ["table", "prices"] (defScope sCosts) := ⟨rfl, rfl, rfl, by decide +kernel, rfl, by decide +kernel, by decide +kernel⟩
def RCosts (ds : List XD) (d : XD) : Prop := ∃ (rows Dr : List Row) (w : Nat) (pr : Row), ds = [.tab rows, D pr] ∧ TabOk rows Dr w ∧ PrOk pr w ∧ d = Dd (costsM Dr pr)
theorem TabOk.rowW {rows Dr : List Row} {w : Nat} (T : TabOk rows Dr w) {x : Row} (h : x ∈ Dr) : x.items.length = w := (T.ok x ((T.mem x).mp h)).1
theorem def_costs (gl : Glob G) (F1 : Def G 2 "rows_of" RRows) (F2 : Def G 1 "apart" RApart) {f : Addr} {fd : FuncData} (F : Fun G.K "costs_of" "costs_of" sCosts f fd) (hm : G.mg "costs_of" = some (.ref f)) (b : Binds G.K fd ["table", "prices"] []) : Def G 3 "costs_of" RCosts := by
  refine def_ok gl F scCosts hm b (fun ds d h => ?_) fun cdv A outer s H E on ds d hR => ?_
  · obtain ⟨_, _, _, _, rfl, _⟩ := h
    rfl
  · obtain ⟨rows, Dr, w, pr, rfl, T, P, rfl⟩ := hR
    have nd := T.asc.nodup
    have few := T.few7
    have w4 := T.w4
    have hlen : (costsM Dr pr).length ≤ 49 := Nat.le_trans (filt_len Dr Dr (fun a b => decide (a ≠ b)) fun a b => ((a, b), apartM a b pr)) (mul7 few few)
    exact ⟨_, db_cons (ds_set 2 (pv_pu (dw_call F1 (da_one (dv' 0)) ⟨rows, Dr, w, rfl, T, rfl⟩))) (db_one (ds_ret (dw_dc2 (t := .one 3) (t1 := .one 4) (own := [("one", 3), ("other", 4)]) Dr (fun x => D x) ⟨fun _ => Dr, fun y => D y, fun a b => decide (a ≠ b), fun a b => (a, b), fun a b => apartM a b pr⟩ [4]
      (di_listD (dv 2)) (blkOk_by (N := nCosts) (sc := defScope sCosts) (by decide +kernel)) (by decide) (by decide) (by decide) (fun _ _ _ _ _ => dg_one scCosts.nd 3) (fun _ _ _ _ _ => dg_one scCosts.nd 4)
      (fun _ _ _ _ _ x _ => di_listD (dv 2)) (fun _ _ _ _ _ x y _ _ => pts_t (dt_ne (x := x) (y := y) (dv' 3) (dv' 4))) (fun _ _ _ _ _ x y _ _ _ => dw_pair (dv' 3) (dv' 4))
      (fun _ _ _ _ _ x y hx hy _ => dw_call F2 (da_cons (dv' 3) (da_cons (dv' 4) (da_one (dv' 1)))) ⟨x, y, pr, rfl, by rw [T.rowW hx, T.rowW hy], by rw [T.rowW hy, P.len], by rw [P.len]; exact w4, rfl⟩)
      (fun _ _ => trivial) (fun _ _ _ _ => trivial) (costs_keys nd) (Nat.le_trans hlen (by decide))))), .inl rfl⟩
abbrev sIsTie : Stmt := top 34
theorem scIsTie : FnScope ["rows", "tie"] ["rows", "tie"] (defScope sIsTie) := ⟨rfl, rfl, rfl, by decide +kernel, rfl, by decide +kernel, by decide +kernel⟩
def RIsTie (ds : List XD) (d : XD) : Prop := ∃ (rows : List Row) (t : Tie), ds = [D rows, D t] ∧ d = .dat (.bool (isTieM rows t))
theorem def_isTie (gl : Glob G) {f : Addr} {fd : FuncData} (F : Fun G.K "is_tie" "is_tie" sIsTie f fd) (hm : G.mg "is_tie" = some (.ref f)) (b : Binds G.K fd ["rows", "tie"] []) : Def G 1 "is_tie" RIsTie := by
  refine def_ok gl F scIsTie hm b (fun ds d h => ?_) fun cdv A outer s H E on ds d hR => ?_
  · obtain ⟨_, _, rfl, _⟩ := h
    rfl
  · obtain ⟨rows, ⟨t1, t2⟩, rfl, rfl⟩ := hR
    refine ⟨_, db_one (ds_ret (dw_and (dw_isiTup (ds := [toD t1, toD t2]) (dv' 1)) fun _ => dw_and (dw_eq (x := (([toD t1, toD t2] : List PyData).length : Int)) (y := 2) (dw_lenT (ys := [toD t1, toD t2]) (dv' 1)) dc_int) fun _ => dw_and (dw_inL (x := t1) (ys := rows) (dw_ixT (i := 0) (ys := [toD t1, toD t2]) (dv' 1) dc_int rfl rfl) (dv' 0)) fun _ => dw_and (dw_inL (x := t2) (ys := rows) (dw_ixT (i := 1) (ys := [toD t1, toD t2]) (dv' 1) dc_int rfl rfl) (dv' 0)) fun _ => dw_one (dw_lt (x := t1) (y := t2) (dw_ixT (i := 0) (ys := [toD t1, toD t2]) (dv' 1) dc_int rfl rfl) (dw_ixT (i := 1) (ys := [toD t1, toD t2]) (dv' 1) dc_int rfl rfl)))), .inl ?_⟩
    unfold isTieM
    simp
end
end RC

/-! RdC: orderings: joined_by, way_between, is_fair, shows. -/
namespace RC
open PySem L2
open PySem.W (Datum DatumOrd Tup T3 Holds HoldAll minOf maxOf EachIs)
section
variable {G : Gx}
def stAt (l : List Stmt) (i : Nat) : Stmt := l.getD i (.Pass ⟨0, 0, 0, 0⟩)
def wC : Stmt → Expr
  | .While c .. => c
  | _ => .Constant .none 0 ⟨0, 0, 0, 0⟩
def wB : Stmt → List Stmt
  | .While _ b .. => b
  | .For _ _ b .. => b
  | _ => []
theorem joinFold_bal {one : Row} : ∀ (ties : List Tie) (st : List Row × List Row), (ties.foldl (joinStep one) st).1.length + st.2.length = (ties.foldl (joinStep one) st).2.length + st.1.length
  | [], st => Nat.add_comm _ _
  | t :: ties, st => by
    rw [List.foldl_cons]
    have h1 := joinFold_bal (one := one) ties (joinStep one st t)
    have h2 : (joinStep one st t).1.length + st.2.length = (joinStep one st t).2.length + st.1.length := by
      unfold joinStep
      by_cases hc : one ∈ [t.1, t.2] ∧ (if t.1 = one then t.2 else t.1) ∉ st.1
      · rw [if_pos hc]
        simp
        omega
      · rw [if_neg hc]
        omega
    omega
abbrev sJoin : Stmt := top 35
abbrev nJoin : List Str := ["ties", "row", "found", "more", "one", "first", "last", "other"]
theorem scJoin : FnScope nJoin ["ties", "row"] (defScope sJoin) := ⟨rfl, rfl, rfl, by decide +kernel, rfl, by decide +kernel, by decide +kernel⟩
def RJoin (ds : List XD) (d : XD) : Prop := ∃ (ties : List Tie) (row : Row), ds = [D ties, D row] ∧ ties.length ≤ 1000 ∧ d = D (joinedM ties row)
abbrev wJoin : Stmt := stAt (defBody sJoin) 1
abbrev fJoin : Stmt := stAt (wB wJoin) 1
def jEnv (ties : List Tie) (row : Row) (f m : List Row) (one : Option Slot) : DEnv := ⟨[some (.x (D ties)), some (.x (D row)), some (.own (Ds f)), some (.own (Ds m)), one, none, none, none], false⟩
theorem Ds_app {α : Type} [DecidableEq α] [Datum α] (xs : List α) (x : α) : Ds (xs ++ [x]) = Ds xs ++ [toD x] := List.map_append
theorem def_join (gl : Glob G) {f : Addr} {fd : FuncData} (F : Fun G.K "joined_by" "joined_by" sJoin f fd) (hm : G.mg "joined_by" = some (.ref f)) (b : Binds G.K fd ["ties", "row"] []) : Def G 1 "joined_by" RJoin := by
  refine def_ok gl F scJoin hm b (fun ds d h => ?_) fun cdv A outer s H E on ds d hR => ?_
  · obtain ⟨_, _, rfl, _⟩ := h
    rfl
  · obtain ⟨ties, row, rfl, hz, rfl⟩ := hR
    obtain ⟨hrun, _, hlen⟩ := joined_run ties row
    -- the turns
    have turns : ∀ {f0 m0 out : List Row}, JRun ties f0 m0 out → out.length ≤ 5000 → m0.length ≤ f0.length → WRun G (Bx G nJoin "joined_by" sJoin f cdv A outer s H E) (wC wJoin) (wB wJoin) (jEnv ties row f0 m0 none) (jEnv ties row out [] none) := by
      intro f0 m0 out hj
      induction hj with
      | done => exact fun _ _ => .done (dt_ne (x := ([] : List Row)) (y := []) (dvo 3) (dn_w dn_lst0))
      | @turn f0 m0 out one hj ih =>
        intro hb hm0
        have hl0 := hj.len
        have bal0 := joinFold_bal (one := one) ties (f0, m0)
        simp only at bal0
        rw [List.length_append, List.length_singleton] at hm0
        have cond : DT G (Bx G nJoin "joined_by" sJoin f cdv A outer s H E) (wC wJoin) (jEnv ties row f0 (m0 ++ [one]) none) true := by
          have e : true = decide (m0 ++ [one] ≠ []) := by simp
          rw [e]
          exact dt_ne (x := m0 ++ [one]) (y := ([] : List Row)) (dvo 3) (dn_w dn_lst0)
        refine .turn cond ?_ (ih hb (by omega))
        have epop : jEnv ties row f0 (m0 ++ [one]) none = ⟨[some (.x (D ties)), some (.x (D row)), some (.own (Ds f0)), some (.own (Ds m0 ++ [toD one])), none, none, none, none], false⟩ := by
          unfold jEnv
          rw [Ds_app]
        rw [epop]
        refine db_cons (ds_pop 3 4) ?_
        have e0 : ties.take (ties.map fun x => D x).length = ties := by rw [List.length_map, List.take_length]
        refine db_less (r1 := jEnv ties row (ties.foldl (joinStep one) (f0, m0)).1 (ties.foldl (joinStep one) (f0, m0)).2 (some (.x (D one)))) (db_one ?_) less_of
        have loop := frun_ix (G := G) (X := Bx G nJoin "joined_by" sJoin f cdv A outer s H E) (t := .tup [5, 6]) (ds := ties.map fun x => D x) (body := wB fJoin) (fun i => jEnv ties row ((ties.take i).foldl (joinStep one) (f0, m0)).1 ((ties.take i).foldl (joinStep one) (f0, m0)).2 (some (.x (D one)))) fun i dd hd => ?_
        · rw [e0] at loop
          exact ds_for (t := .tup [5, 6]) (di_listD (xs := ties) (dv 0)) (dg_tup rfl (dg_cons scJoin.nd 5 (dg_cons scJoin.nd 6 dg_nil))) loop PassesOwn.never
        · rw [List.getElem?_map] at hd
          obtain ⟨t, ht, rfl⟩ := Option.map_eq_some_iff.mp hd
          have et : ties.take (i + 1) = ties.take i ++ [t] := List.take_add_one.trans (by rw [ht]; rfl)
          have est : (ties.take (i + 1)).foldl (joinStep one) (f0, m0) = joinStep one ((ties.take i).foldl (joinStep one) (f0, m0)) t := by rw [et, List.foldl_append]; rfl
          have bal := joinFold_bal (one := one) (ties.take i) (f0, m0)
          have grow : ((ties.take i).foldl (joinStep one) (f0, m0)).1.length ≤ (ties.foldl (joinStep one) (f0, m0)).1.length := by
            have := joinFold_len (one := one) (ties.drop i) ((ties.take i).foldl (joinStep one) (f0, m0))
            rw [← List.foldl_append, List.take_append_drop] at this
            exact this
          rw [est]
          generalize hst : (ties.take i).foldl (joinStep one) (f0, m0) = st at bal grow
          simp only at bal
          have fl : st.1.length ≤ 5000 := by omega
          have ml : st.2.length ≤ 5000 := by omega
          obtain ⟨t1, t2⟩ := t
          let other : Row := if t1 = one then t2 else t1
          refine ⟨rfl, jEnv ties row (joinStep one st (t1, t2)).1 (joinStep one st (t1, t2)).2 (some (.x (D one))), ?_, less_of⟩
          refine db_cons (ds_set 7 (pv_im (d := D other) (dw_if (dt_eq (x := t1) (y := one) (dv' 5) (dv' 4)) (fun hk => ?_) (fun hk => ?_)) (imD other))) ?_
          · have : other = t2 := if_pos (by simpa using hk)
            rw [this]
            exact dv' 6
          · have : other = t1 := if_neg (by simpa using hk)
            rw [this]
            exact dv' 5
          refine db_less (r1 := ⟨[some (.x (D ties)), some (.x (D row)), some (.own (Ds (joinStep one st (t1, t2)).1)), some (.own (Ds (joinStep one st (t1, t2)).2)), some (.x (D one)), some (.x (D t1)), some (.x (D t2)), some (.x (D other))], false⟩) (db_one ?_) less_of
          by_cases hc : one ∈ [t1, t2] ∧ other ∉ st.1
          · have ej : joinStep one st (t1, t2) = (st.1 ++ [other], st.2 ++ [other]) := if_pos hc
            rw [ej]
            simp only [Ds_app]
            refine ds_if (PW.pt (dt_and (dt_inT (x := one) (ys := [t1, t2]) (dv' 4) (dw_tup2 (dv' 5) (dv' 6))) fun _ => dt_and1 (dt_ninL (x := other) (ys := st.1) (dv' 7) (dvo 2)))) (fun _ => ?_) (fun hk => ?_)
            · exact db_cons (ds_append 2 (he := dv' 7) (him := Imm.imm other) (hz := by rw [List.length_map]; omega)) (db_one (ds_append 3 (he := dv' 7) (him := Imm.imm other) (hz := by rw [List.length_map]; omega)))
            · exfalso
              have h1 : decide (one ∈ [t1, t2]) = true := decide_eq_true hc.1
              have h2 : decide (other ∉ st.1) = true := decide_eq_true hc.2
              rw [h1, h2] at hk
              cases hk
          · have ej : joinStep one st (t1, t2) = st := if_neg hc
            rw [ej]
            refine ds_if (PW.pt (dt_and (dt_inT (x := one) (ys := [t1, t2]) (dv' 4) (dw_tup2 (dv' 5) (dv' 6))) fun _ => dt_and1 (dt_ninL (x := other) (ys := st.1) (dv' 7) (dvo 2)))) (fun hk => ?_) (fun _ => db_nil)
            exfalso
            rw [Bool.and_eq_true, decide_eq_true_eq, decide_eq_true_eq] at hk
            exact hc hk
    exact ⟨_, db_cons (ds_par 2 3 (pv_own (dn_lst1 (x := row) (dv' 1))) (pv_own (dn_lst1 (x := row) (dv' 1)))) (db_cons (ds_while (turns hrun (by omega) (Nat.le_refl _)) PassesOwn.never) (db_one (ds_ret (dvo 2)))), .inl rfl⟩
end
end RC

/-! RdD: orderings: way_between, is_fair, shows. -/
namespace RC
open PySem L2
open PySem.W (Datum DatumOrd Tup T3 Holds HoldAll minOf maxOf EachIs)
section
variable {G : Gx}
abbrev sWay : Stmt := top 36
abbrev nWay : List Str := ["ties", "one", "other", "tie", "late"]
theorem scWay : FnScope nWay ["ties", "one", "other"] (defScope sWay) := ⟨rfl, rfl, rfl, by decide +kernel, rfl, by decide +kernel, by decide +kernel⟩
def RWay (ds : List XD) (d : XD) : Prop := ∃ (ties : List Tie) (a b : Row), ds = [D ties, D a, D b] ∧ ties.length ≤ 1000 ∧ d = D (wayM ties a b)
theorem def_way (gl : Glob G) (F1 : Def G 1 "joined_by" RJoin) {f : Addr} {fd : FuncData} (F : Fun G.K "way_between" "way_between" sWay f fd) (hm : G.mg "way_between" = some (.ref f)) (b : Binds G.K fd ["ties", "one", "other"] []) : Def G 2 "way_between" RWay := by
  refine def_ok gl F scWay hm b (fun ds d h => ?_) fun cdv A outer s H E on ds d hR => ?_
  · obtain ⟨_, _, _, rfl, _⟩ := h
    rfl
  · obtain ⟨ties, a, b', rfl, hz, rfl⟩ := hR
    refine ⟨_, db_one (ds_ret (dn_w (dn_lcT (t := .one 3) (own := [("tie", 3)]) ties (fun x => D x) (fun t => decide (b' ∉ joinedM (ties.filter fun l => decide (l ≠ t)) a)) (fun t => t) (di_listD (dv 0)) (blkOk_by (N := nWay) (sc := defScope sWay) (by decide +kernel)) (by decide) (fun _ _ _ _ _ => dg_one scWay.nd 3)
      (fun _ _ _ _ _ t _ => pts_t (dt_ninL (x := b') (ys := joinedM (ties.filter fun l => decide (l ≠ t)) a) (dv' 2) (dw_call F1 (da_cons (dn_w (dn_lcT (t := .one 4) (own := [("late", 4)]) ties (fun x => D x) (fun l => decide (l ≠ t)) (fun l => l) (di_listD (dv 0)) (blkOk_by (N := nWay) (by rfl)) (by decide) (fun _ _ _ _ _ => dg_one scWay.nd 4)
        (fun _ _ _ _ _ l _ => pts_t (dt_ne (x := l) (y := t) (dv' 4) (dv' 3))) (fun _ _ _ _ _ l _ _ => dv' 4) (fun _ _ => trivial) (by omega))) (da_one (dv' 1))) ⟨_, a, rfl, by rw [List.map_id']; exact Nat.le_trans (List.length_filter_le _ _) hz, by rw [List.map_id']⟩)))
      (fun _ _ _ _ _ t _ _ => dv' 3) (fun _ _ => trivial) (by omega)))), .inl ?_⟩
    rw [List.map_id']
    rfl

section
variable {X : Cx} {lv : Nat} {r : DEnv} {c : Expr} {pos : Pos} {sts rest : List Stmt} {o : Out}
theorem ds_then {k : Bool} (h : DT G X c r k) (hk : k = true) (h1 : DB G X sts r o) : DS G X (.If c sts rest pos) r o := ds_if h (fun _ => h1) fun z => by rw [hk] at z; cases z
theorem ds_else {k : Bool} (h : DT G X c r k) (hk : k = false) (h1 : DB G X rest r o) : DS G X (.If c sts rest pos) r o := ds_if h (fun z => by rw [hk] at z; cases z) fun _ => h1
end
def ifC : Stmt → Expr
  | .If c .. => c
  | _ => .Constant .none 0 ⟨0, 0, 0, 0⟩
abbrev sFair : Stmt := bdf 3
abbrev nFair : List Str := ["self", "one", "other", "costs", "tie"]
theorem scFair : FnScope nFair ["self", "one", "other", "costs"] (defScope sFair) := ⟨rfl, rfl, rfl, by decide +kernel, rfl, by decide +kernel, by decide +kernel⟩
def RFair (ds : List XD) (d : XD) : Prop := ∃ (ties : List Tie) (a b : Row) (costs : Costs), ds = [.bnd (Ds ties), D a, D b, Dd costs] ∧ ties.length ≤ 1000 ∧ (∀ t, t ∈ ties → (look costs t).isSome = true) ∧ (look costs (a, b)).isSome = true ∧ d = .dat (.bool (fairM ties costs a b))
theorem def_fair (gl : Glob G) (F1 : Def G 2 "way_between" RWay) {f : Addr} {fd : FuncData} (F : Fun G.K "is_fair" "Bound.is_fair" sFair f fd) (M : Meth G.K G.CB "is_fair" f) (b : Binds G.K fd ["self", "one", "other", "costs"] []) : DefB G 3 "is_fair" RFair := by
  refine ⟨f, fd, _, fn_ok gl F scFair (fun ds d h => ?_) (fun cdv A outer s H E on ds d hR => ?_), M, b⟩
  · obtain ⟨_, _, _, _, rfl, _⟩ := h
    rfl
  · obtain ⟨ties, a, b', costs, rfl, hz, hl, hab, rfl⟩ := hR
    have hw : (wayM ties a b').length ≤ ties.length := List.length_filter_le _ _
    have hs : ∀ t, t ∈ wayM ties a b' → (look costs t).isSome = true := fun t ht => hl t (List.mem_filter.mp ht).1
    exact ⟨_, db_one (ds_ret (dw_all (dn_w (dn_lcM (t := .one 4) (own := [("tie", 4)]) (wayM ties a b') (fun x => D x) (fun t => decide (lk costs t ≤ lk costs (a, b'))) (di_listD (de_pu (dw_call F1 (da_cons (dw_ties (dv' 0)) (da_cons (dv' 1) (da_one (dv' 2)))) ⟨ties, a, b', rfl, hz, rfl⟩) rfl)) (blkOk_by (N := nFair) (sc := defScope sFair) (by decide +kernel)) (by decide) (fun _ _ _ _ _ => dg_one scFair.nd 4)
      (fun _ _ _ _ _ t ht => dw_leI (dw_dget (kvs := costs) (k := t) (dv' 3) (dv' 4) (look_lk (hs t ht))) (dw_dget (kvs := costs) (k := (a, b')) (dv' 3) (dw_pair (dv' 1) (dv' 2)) (look_lk hab))) (fun _ _ => trivial) (by omega))))), .inl rfl⟩

theorem TabOk.neD {rows Dr : List Row} {w : Nat} (T : TabOk rows Dr w) : ∃ d0 rest, Dr = d0 :: rest := by
  cases Dr with
  | cons d0 rest => exact ⟨d0, rest, rfl⟩
  | nil =>
    exfalso
    have ne := T.ne
    cases rows with
    | nil => simp at ne
    | cons a l => exact absurd ((T.mem a).mpr List.mem_cons_self) (by simp)
abbrev sShows : Stmt := bdf 2
abbrev nShows : List Str := ["self", "table", "prices", "rows", "costs", "tie", "one", "other"]
theorem scShows : FnScope nShows ["self", "table", "prices"] (defScope sShows) := ⟨rfl, rfl, rfl, by decide +kernel, rfl, by decide +kernel, by decide +kernel⟩
def RShows (ds : List XD) (d : XD) : Prop := ∃ (ties : List Tie) (rows Dr : List Row) (w : Nat) (pr : Row), ds = [.bnd (Ds ties), .tab rows, D pr] ∧ ties.length ≤ 1000 ∧ TabOk rows Dr w ∧ PrOk pr w ∧ d = .dat (.bool (showsM ties Dr pr))
theorem tie_cost {Dr : List Row} {pr : Row} (nd : Dr.Nodup) {t : Tie} (h : isTieM Dr t = true) : (look (costsM Dr pr) t).isSome = true := by
  unfold isTieM at h
  simp only [Bool.and_eq_true, decide_eq_true_eq] at h
  rw [show t = (t.1, t.2) from rfl, costs_look nd h.1 h.2.1 (lt_ne h.2.2)]
  rfl
theorem def_shows (gl : Glob G) (F1 : Def G 4 "check_few" RCkP) (F2 : Def G 2 "rows_of" RRows) (F3 : Def G 3 "costs_of" RCosts) (F4 : Def G 1 "is_tie" RIsTie) (F5 : Def G 1 "joined_by" RJoin) (F6 : DefB G 3 "is_fair" RFair) {f : Addr} {fd : FuncData} (F : Fun G.K "shows" "Bound.shows" sShows f fd) (M : Meth G.K G.CB "shows" f) (b : Binds G.K fd ["self", "table", "prices"] []) : DefB G 5 "shows" RShows := by
  refine ⟨f, fd, _, fn_ok gl F scShows (fun ds d h => ?_) (fun cdv A outer s H E on ds d hR => ?_), M, b⟩
  · obtain ⟨_, _, _, _, _, rfl, _⟩ := h
    rfl
  · obtain ⟨ties, rows, Dr, w, pr, rfl, hz, T, P, rfl⟩ := hR
    have nd := T.asc.nodup
    have few := T.few7
    obtain ⟨d0, rest, hD⟩ := T.neD
    refine ⟨_, db_cons (ds_expr (dw_call F1 (da_cons (dv' 1) (da_one (dv' 2))) ⟨rows, Dr, w, pr, rfl, T, P, rfl⟩)) (db_cons (ds_parT 3 4 (pv_pu (dw_call F2 (da_one (dv' 1)) ⟨rows, Dr, w, rfl, T, rfl⟩)) (pv_pu (dw_call F3 (da_cons (dv' 1) (da_one (dv' 2))) ⟨rows, Dr, w, pr, rfl, T, P, rfl⟩))) ?_), .inl rfl⟩
    have c1 : DT G (Bx G nShows "Bound.shows" sShows f cdv A outer s H E) (ifC (stAt (defBody sShows) 2)) ⟨[some (.x (.bnd (Ds ties))), some (.x (.tab rows)), some (.x (D pr)), some (.x (D Dr)), some (.x (Dd (costsM Dr pr))), none, none, none], true⟩ (decide ((ties.length : Int) ≠ (Dr.length : Int) - 1) || !((ties.map fun t => isTieM Dr t).all id)) :=
      PW.pt (dt_or (dt_ne (x := (ties.length : Int)) (y := (Dr.length : Int) - 1) (dw_len (α := Tie) (dw_ties (dv' 0))) (dw_sub (dw_len (α := Row) (dv' 3)) dc_int)) fun _ => dt_or1 (dt_not (dt_val (dw_all (dn_w (dn_lcM (t := .one 5) (own := [("tie", 5)]) ties (fun x => D x) (fun t => isTieM Dr t) (di_listD (de_pu (dw_ties (dv' 0)) rfl)) (blkOk_by (N := nShows) (sc := defScope sShows) (by decide +kernel)) (by decide) (fun _ _ _ _ _ => dg_one scShows.nd 5)
        (fun _ _ _ _ _ t ht => dw_call F4 (da_cons (dv' 3) (da_one (dv' 5))) ⟨Dr, t, rfl, rfl⟩) (fun _ _ => trivial) (by omega)))))))
    have c2 : DT G (Bx G nShows "Bound.shows" sShows f cdv A outer s H E) (ifC (stAt (defBody sShows) 3)) ⟨[some (.x (.bnd (Ds ties))), some (.x (.tab rows)), some (.x (D pr)), some (.x (D Dr)), some (.x (Dd (costsM Dr pr))), none, none, none], true⟩ (decide (((joinedM ties (Dr.headD (Tup.mk []))).length : Int) ≠ (Dr.length : Int))) := by
      subst hD
      exact dt_ne (x := ((joinedM ties d0).length : Int)) (y := ((d0 :: rest).length : Int)) (dw_len (α := Row) (dw_call F5 (da_cons (dw_ties (dv' 0)) (da_one (dw_ixL (i := 0) (d := toD d0) (dv' 3) dc_int rfl rfl))) ⟨ties, d0, rfl, hz, rfl⟩)) (dw_len (α := Row) (dv' 3))
    by_cases h1 : (decide ((ties.length : Int) ≠ (Dr.length : Int) - 1) || !((ties.map fun t => isTieM Dr t).all id)) = true
    · have e : showsM ties Dr pr = false := by unfold showsM; rw [if_pos h1]
      rw [e]
      exact db_stop (ds_then c1 h1 (db_one (ds_ret dc_bl)))
    · have h1' := Bool.eq_false_iff.mpr h1
      refine db_cons (ds_skip c1 h1') ?_
      by_cases h2 : decide (((joinedM ties (Dr.headD (Tup.mk []))).length : Int) ≠ (Dr.length : Int)) = true
      · have e : showsM ties Dr pr = false := by unfold showsM; rw [if_neg h1, if_pos h2]
        rw [e]
        exact db_stop (ds_then c2 h2 (db_one (ds_ret dc_bl)))
      · have h2' := Bool.eq_false_iff.mpr h2
        refine db_cons (ds_skip c2 h2') ?_
        have e : showsM ties Dr pr = (out2 Dr (fun _ => Dr) (fun a b => DatumOrd.lt a b) fun a b => fairM ties (costsM Dr pr) a b).all id := by unfold showsM; rw [if_neg h1, if_neg h2]
        rw [e]
        have hties : ∀ t, t ∈ ties → (look (costsM Dr pr) t).isSome = true := fun t ht => by
          refine tie_cost nd ?_
          rw [Bool.or_eq_false_iff, Bool.not_eq_false', List.all_map, List.all_eq_true] at h1'
          exact h1'.2 t ht
        exact db_one (ds_ret (dw_all (dn_w (dn_lc2T (t := .one 6) (t1 := .one 7) (own := [("one", 6), ("other", 7)]) Dr (fun x => D x) (fun _ => Dr) (fun y => D y) (fun a b => DatumOrd.lt a b) (fun a b => fairM ties (costsM Dr pr) a b) [7]
          (di_listD (dv 3)) (blkOk_by (N := nShows) (sc := defScope sShows) (by decide +kernel)) (by decide) (by decide) (by decide) (fun _ _ _ _ _ => dg_one scShows.nd 6) (fun _ _ _ _ _ => dg_one scShows.nd 7)
          (fun _ _ _ _ _ x _ => di_listD (dv 3)) (fun _ _ _ _ _ x y _ _ => pts_t (dt_lt (x := x) (y := y) (dv' 6) (dv' 7)))
          (fun _ _ _ _ _ x y hx hy hp => dw_methB F6 (dv' 0) (da_cons (dv' 6) (da_cons (dv' 7) (da_one (dv' 4)))) ⟨ties, x, y, costsM Dr pr, rfl, hz, hties, by rw [costs_look nd hx hy (lt_ne hp)]; rfl, rfl⟩) (fun _ _ => trivial) (fun _ _ _ _ => trivial) (by rw [flat_len]; have := mul7 few few; omega)))))
end
end RC

/-! RdE: orderings: least_changes, least_tree, least_ties, round_order. -/
namespace RC
open PySem L2
open PySem.W (Datum DatumOrd Tup T3 Holds HoldAll minOf maxOf EachIs)
section
variable {G : Gx}
abbrev sLCh : Stmt := top 33
abbrev nLCh : List Str := ["table", "prices", "rows", "costs"]
theorem scLCh : FnScope nLCh ["table", "prices"] (defScope sLCh) := ⟨rfl, rfl, rfl, by decide +kernel, rfl, by decide +kernel, by decide +kernel⟩
def changesM (Dr : List Row) (pr : Row) : Int := leastCostM Dr (restM Dr (costsM Dr pr))
def RLCh (ds : List XD) (d : XD) : Prop := ∃ (rows Dr : List Row) (w : Nat) (pr : Row), ds = [.tab rows, D pr] ∧ TabOk rows Dr w ∧ PrOk pr w ∧ d = .dat (.int (changesM Dr pr))
theorem rest_full {Dr : List Row} {costs : Costs} {t : Row} (ht : t ∈ Dr) : (look (restM Dr costs) (withoutM Dr t, t)).isSome = true := by
  refine look_isSome ?_
  unfold restM
  rw [rest_keys]
  exact List.mem_append_right _ (pairsM_mem.mpr ⟨without_sub (lot := Tup.mk Dr) (List.Sublist.refl _), ht, without_not⟩)
theorem def_lCh (gl : Glob G) (F1 : Def G 4 "check_few" RCkP) (F2 : Def G 2 "rows_of" RRows) (F3 : Def G 3 "costs_of" RCosts) (F4 : Def G 3 "rest_of" RRest) (F5 : Def G 2 "least_cost" RLCost) {f : Addr} {fd : FuncData} (F : Fun G.K "least_changes" "least_changes" sLCh f fd) (hm : G.mg "least_changes" = some (.ref f)) (b : Binds G.K fd ["table", "prices"] []) : Def G 5 "least_changes" RLCh := by
  refine def_ok gl F scLCh hm b (fun ds d h => ?_) fun cdv A outer s H E on ds d hR => ?_
  · obtain ⟨_, _, _, _, rfl, _⟩ := h
    rfl
  · obtain ⟨rows, Dr, w, pr, rfl, T, P, rfl⟩ := hR
    have nd := T.asc.nodup
    obtain ⟨d0, rest, hD⟩ := T.neD
    exact ⟨_, db_cons (ds_expr (dw_call F1 (da_cons (dv' 0) (da_one (dv' 1))) ⟨rows, Dr, w, pr, rfl, T, P, rfl⟩)) (db_cons (ds_par 2 3 (pv_pu (dw_call F2 (da_one (dv' 0)) ⟨rows, Dr, w, rfl, T, rfl⟩)) (pv_pu (dw_call F3 (da_cons (dv' 0) (da_one (dv' 1))) ⟨rows, Dr, w, pr, rfl, T, P, rfl⟩)))
      (db_one (ds_ret (dw_call F5 (da_cons (dv' 2) (da_one (dw_call F4 (da_cons (dv' 2) (da_one (dv' 3))) ⟨Dr, costsM Dr pr, rfl, T.few7, nd, fun a b ha hb hne => by rw [costs_look nd ha hb hne]; rfl, rfl⟩))) ⟨Dr, _, rfl, by rw [hD]; simp, T.few7, fun t ht => rest_full ht, rfl⟩)))), .inl rfl⟩

abbrev sTree : Stmt := top 37
abbrev nTree : List Str := ["table", "prices", "rows", "costs", "pairs", "found", "price", "one", "other"]
theorem scTree : FnScope nTree ["table", "prices"] (defScope sTree) := ⟨rfl, rfl, rfl, by decide +kernel, rfl, by decide +kernel, by decide +kernel⟩
def RTree (ds : List XD) (d : XD) : Prop := ∃ (rows Dr : List Row) (w : Nat) (pr : Row), ds = [.tab rows, D pr] ∧ TabOk rows Dr w ∧ PrOk pr w ∧ d = .bnd (Ds (treeM Dr pr))
theorem krPairs_len (Dr : List Row) (costs : Costs) (h : Dr.length ≤ 7) : (krPairs Dr costs).length ≤ 49 := by
  unfold krPairs
  rw [sortD_len]
  exact Nat.le_trans (filt_len Dr Dr (fun a b => DatumOrd.lt a b) fun a b => T3.mk (lk costs (a, b)) a b) (mul7 h h)
theorem krFold_len : ∀ (qs : List (T3 Int Row Row)) (f : List Tie), (qs.foldl krStep f).length ≤ f.length + qs.length
  | [], f => by simp
  | q :: qs, f => by
    rw [List.foldl_cons]
    have h1 := krFold_len qs (krStep f q)
    have h2 : (krStep f q).length ≤ f.length + 1 := by
      unfold krStep
      split
      · simp
      · omega
    rw [List.length_cons]
    omega
theorem def_tree (gl : Glob G) (F1 : Def G 4 "check_few" RCkP) (F2 : Def G 2 "rows_of" RRows) (F3 : Def G 3 "costs_of" RCosts) (F4 : Def G 1 "joined_by" RJoin) (F5 : MkB G 1) {f : Addr} {fd : FuncData} (F : Fun G.K "least_tree" "least_tree" sTree f fd) (hm : G.mg "least_tree" = some (.ref f)) (b : Binds G.K fd ["table", "prices"] []) : Def G 5 "least_tree" RTree := by
  refine def_ok gl F scTree hm b (fun ds d h => ?_) fun cdv A outer s H E on ds d hR => ?_
  · obtain ⟨_, _, _, _, rfl, _⟩ := h
    rfl
  · obtain ⟨rows, Dr, w, pr, rfl, T, P, rfl⟩ := hR
    have nd := T.asc.nodup
    have few := T.few7
    have plen := krPairs_len Dr (costsM Dr pr) few
    have e0 : (krPairs Dr (costsM Dr pr)).take ((krPairs Dr (costsM Dr pr)).map fun x => D x).length = krPairs Dr (costsM Dr pr) := by rw [List.length_map, List.take_length]
    refine ⟨.rt (.bnd (Ds (treeM Dr pr))), ?_, .inl rfl⟩
    refine db_cons (ds_expr (dw_call F1 (da_cons (dv' 0) (da_one (dv' 1))) ⟨rows, Dr, w, pr, rfl, T, P, rfl⟩)) ?_
    refine db_cons (ds_parT 2 3 (pv_pu (dw_call F2 (da_one (dv' 0)) ⟨rows, Dr, w, rfl, T, rfl⟩)) (pv_pu (dw_call F3 (da_cons (dv' 0) (da_one (dv' 1))) ⟨rows, Dr, w, pr, rfl, T, P, rfl⟩))) ?_
    refine db_cons (ds_set 4 (pv_n (dn_sorted (xs := out2 Dr (fun _ => Dr) (fun a b => DatumOrd.lt a b) fun a b => T3.mk (lk (costsM Dr pr) (a, b)) a b) (dn_w (dn_lc2T (t := .one 7) (t1 := .one 8) (own := [("one", 7), ("other", 8)]) Dr (fun x => D x) (fun _ => Dr) (fun y => D y) (fun a b => DatumOrd.lt a b) (fun a b => T3.mk (lk (costsM Dr pr) (a, b)) a b) [8]
          (di_listD (dv 2)) (blkOk_by (N := nTree) (sc := defScope sTree) (by decide +kernel)) (by decide) (by decide) (by decide) (fun _ _ _ _ _ => dg_one scTree.nd 7) (fun _ _ _ _ _ => dg_one scTree.nd 8)
          (fun _ _ _ _ _ x _ => di_listD (dv 2)) (fun _ _ _ _ _ x y _ _ => pts_t (dt_lt (x := x) (y := y) (dv' 7) (dv' 8)))
          (fun _ _ _ _ _ x y hx hy hp => dw_t3 (dw_dget (kvs := costsM Dr pr) (k := (x, y)) (dv' 3) (dw_pair (dv' 7) (dv' 8)) (look_lk (by rw [costs_look nd hx hy (lt_ne hp)]; rfl))) (dv' 7) (dv' 8)) (fun _ _ => trivial) (fun _ _ _ _ => trivial) (by rw [flat_len]; have := mul7 few few; omega)))
          (PySem.W.Sortable.tuples fun b => ⟨_, _, rfl⟩) (Nat.le_trans (filt_len Dr Dr (fun a b => DatumOrd.lt a b) fun a b => T3.mk (lk (costsM Dr pr) (a, b)) a b) (Nat.le_trans (mul7 few few) (by decide)))))) ?_
    refine db_cons (ds_set 5 (pv_own dn_lst0)) ?_
    have fin : sortD (((krPairs Dr (costsM Dr pr)).take ((krPairs Dr (costsM Dr pr)).map fun x => D x).length).foldl krStep []) = treeM Dr pr := by rw [e0]; rfl
    refine db_cons (ds_for (t := .tup [6, 7, 8]) (di_listD (xs := krPairs Dr (costsM Dr pr)) (dv 4)) (dg_tup rfl (dg_cons scTree.nd 6 (dg_cons scTree.nd 7 (dg_cons scTree.nd 8 dg_nil))))
        (frun_ix (fun i => ⟨[some (.x (.tab rows)), some (.x (D pr)), some (.x (D Dr)), some (.x (Dd (costsM Dr pr))), some (.x (D (krPairs Dr (costsM Dr pr)))), some (.own (Ds (((krPairs Dr (costsM Dr pr)).take i).foldl krStep []))), none, none, none], false⟩) fun i dd hd => ?_) PassesOwn.never) ?_
    rotate_left
    · rw [← fin]
      refine db_one (ds_ret (de_w (de_mkB F5 (dn_w (dn_sorted (α := Tie) (dvo 5) (PySem.W.Sortable.tuples fun b => ⟨_, _, rfl⟩) ?_)) (imsD _))))
      have := krFold_len ((krPairs Dr (costsM Dr pr)).take ((krPairs Dr (costsM Dr pr)).map fun x => D x).length) []
      rw [e0, List.length_nil] at this
      rw [e0]
      omega
    · rw [List.getElem?_map] at hd
      obtain ⟨q, hq, rfl⟩ := Option.map_eq_some_iff.mp hd
      have et : (krPairs Dr (costsM Dr pr)).take (i + 1) = (krPairs Dr (costsM Dr pr)).take i ++ [q] := List.take_add_one.trans (by rw [hq]; rfl)
      have est : ((krPairs Dr (costsM Dr pr)).take (i + 1)).foldl krStep [] = krStep (((krPairs Dr (costsM Dr pr)).take i).foldl krStep []) q := by rw [et, List.foldl_append]; rfl
      have hl := krFold_len ((krPairs Dr (costsM Dr pr)).take i) []
      rw [List.length_take, List.length_nil] at hl
      rw [est]
      generalize ((krPairs Dr (costsM Dr pr)).take i).foldl krStep [] = found at hl
      have hf : found.length ≤ 1000 := by omega
      obtain ⟨c, a, b'⟩ := q
      refine ⟨rfl, ⟨[some (.x (.tab rows)), some (.x (D pr)), some (.x (D Dr)), some (.x (Dd (costsM Dr pr))), some (.x (D (krPairs Dr (costsM Dr pr)))), some (.own (Ds (krStep found ⟨c, a, b'⟩))), some (.x (D c)), some (.x (D a)), some (.x (D b'))], false⟩, db_one ?_, less_of⟩
      by_cases hc : b' ∉ joinedM found a
      · have e : krStep found ⟨c, a, b'⟩ = found ++ [(a, b')] := if_pos hc
        rw [e, Ds_app]
        exact ds_then (dt_ninL (x := b') (ys := joinedM found a) (dv' 8) (dw_call F4 (da_cons (dvo 5) (da_one (dv' 7))) ⟨found, a, rfl, hf, rfl⟩)) (decide_eq_true hc) (db_one (ds_append 5 (he := dw_pair (dv' 7) (dv' 8)) (him := Imm.imm (a, b')) (hz := by rw [List.length_map]; omega)))
      · have e : krStep found ⟨c, a, b'⟩ = found := if_neg hc
        rw [e]
        exact ds_skip (dt_ninL (x := b') (ys := joinedM found a) (dv' 8) (dw_call F4 (da_cons (dvo 5) (da_one (dv' 7))) ⟨found, a, rfl, hf, rfl⟩)) (decide_eq_false hc)
end
end RC

/-! RdF: orderings: least_ties, round_order. -/
namespace RC
open PySem L2
open PySem.W (Datum DatumOrd Tup T3 Holds HoldAll minOf maxOf EachIs)
section
variable {G : Gx}
section
variable {X : Cx} {lv : Nat} {r : DEnv} {elt tg iter : Expr} {ifs : List Expr} {scope : Scope} {own : List (Str × Nat)} {pos : Pos} {γ : Type} [DecidableEq γ] [Datum γ] [Imm γ]
theorem dn_lcF [o : On G X lv] {t : Tg} (xs : List γ) (en : γ → XD) (pr : γ → Bool) (hi : DI G X tg iter r (xs.map en)) (ok : BlkOk X.N X.env.scope scope own) (hv : ∀ i, i ∈ t.slots → i ∈ own.map (·.2))
    (hg : ∀ s H C cl fp, PG (Blk X scope s H C cl fp) tg (tgR X.K t))
    (ht : ∀ s H C cl fp x, x ∈ xs → PTs (Blk X scope s H C cl fp) ifs (tT G (bindE (r.wipe (own.map (·.2))) t (en x)) (pr x)))
    (he : ∀ s H C cl fp x, x ∈ xs → pr x = true → DW G (Blk X scope s H C cl fp) elt (bindE (r.wipe (own.map (·.2))) t (en x)) (D x))
    (hm : ∀ x, x ∈ xs → tgOk t (en x)) (hz : xs.length ≤ 100000) (hs : ∀ x, foldedSetIterable iter X.env x = pure x := by intro _; rfl) :
    DN G X (.ListComp elt [⟨tg, iter, ifs, 0⟩] scope pos) r (Ds (xs.filter pr)) := by
  have := dn_lcT (elt := elt) (pos := pos) xs en pr (fun x => x) hi ok hv hg ht he hm hz hs
  rwa [List.map_id'] at this
end
theorem krFold_mem : ∀ (qs : List (T3 Int Row Row)) (f : List Tie) (t : Tie), t ∈ qs.foldl krStep f → t ∈ f ∨ ∃ q, q ∈ qs ∧ t = (q.b, q.c)
  | [], f, t, h => .inl h
  | q :: qs, f, t, h => by
    rw [List.foldl_cons] at h
    rcases krFold_mem qs (krStep f q) t h with h | ⟨q', h1, h2⟩
    · unfold krStep at h
      split at h
      · rcases List.mem_append.mp h with h | h
        · exact .inl h
        · exact .inr ⟨q, List.mem_cons_self, List.mem_singleton.mp h⟩
      · exact .inl h
    · exact .inr ⟨q', List.mem_cons_of_mem _ h1, h2⟩
theorem out2_mem {α β γ : Type} {xs : List α} {ys : α → List β} {pr : α → β → Bool} {f : α → β → γ} {z : γ} : z ∈ out2 xs ys pr f ↔ ∃ x y, x ∈ xs ∧ y ∈ ys x ∧ pr x y = true ∧ z = f x y := by
  unfold out2
  rw [List.mem_flatMap]
  constructor
  · rintro ⟨x, hx, h⟩
    obtain ⟨y, hy, rfl⟩ := List.mem_map.mp h
    obtain ⟨h1, h2⟩ := List.mem_filter.mp hy
    exact ⟨x, y, hx, h1, h2, rfl⟩
  · rintro ⟨x, y, hx, hy, hp, rfl⟩
    exact ⟨x, hx, List.mem_map.mpr ⟨y, List.mem_filter.mpr ⟨hy, hp⟩, rfl⟩⟩
theorem krPairs_mem {Dr : List Row} {costs : Costs} {q : T3 Int Row Row} : q ∈ krPairs Dr costs ↔ q.b ∈ Dr ∧ q.c ∈ Dr ∧ DatumOrd.lt q.b q.c = true ∧ q.a = lk costs (q.b, q.c) := by
  unfold krPairs
  rw [sortD_mem, out2_mem]
  constructor
  · rintro ⟨x, y, hx, hy, hp, rfl⟩
    exact ⟨hx, hy, hp, rfl⟩
  · rintro ⟨h1, h2, h3, h4⟩
    refine ⟨q.b, q.c, h1, h2, h3, ?_⟩
    obtain ⟨a, b, c⟩ := q
    simp only at h4
    rw [h4]
theorem treeM_mem {Dr : List Row} {pr : Row} {t : Tie} (h : t ∈ treeM Dr pr) : t.1 ∈ Dr ∧ t.2 ∈ Dr ∧ DatumOrd.lt t.1 t.2 = true := by
  unfold treeM at h
  rw [sortD_mem] at h
  rcases krFold_mem _ _ _ h with h | ⟨q, hq, rfl⟩
  · cases h
  · obtain ⟨h1, h2, h3, _⟩ := krPairs_mem.mp hq
    exact ⟨h1, h2, h3⟩
theorem treeM_len {Dr : List Row} {pr : Row} (h : Dr.length ≤ 7) : (treeM Dr pr).length ≤ 49 := by
  unfold treeM
  rw [sortD_len]
  have h1 := krFold_len (krPairs Dr (costsM Dr pr)) []
  have h2 := krPairs_len Dr (costsM Dr pr) h
  rw [List.length_nil] at h1
  omega
abbrev sLTies : Stmt := top 38
abbrev nLTies : List Str := ["table", "prices", "ties", "one", "other"]
theorem scLTies : FnScope nLTies ["table", "prices"] (defScope sLTies) := ⟨rfl, rfl, rfl, by decide +kernel, rfl, by decide +kernel, by decide +kernel⟩
def RLTies (ds : List XD) (d : XD) : Prop := ∃ (rows Dr : List Row) (w : Nat) (pr : Row), ds = [.tab rows, D pr] ∧ TabOk rows Dr w ∧ PrOk pr w ∧ d = .dat (.int (worthM (treeM Dr pr) pr))
theorem def_lTies (gl : Glob G) (F1 : Def G 5 "least_tree" RTree) (F2 : Def G 1 "apart" RApart) {f : Addr} {fd : FuncData} (F : Fun G.K "least_ties" "least_ties" sLTies f fd) (hm : G.mg "least_ties" = some (.ref f)) (b : Binds G.K fd ["table", "prices"] []) : Def G 6 "least_ties" RLTies := by
  refine def_ok gl F scLTies hm b (fun ds d h => ?_) fun cdv A outer s H E on ds d hR => ?_
  · obtain ⟨_, _, _, _, rfl, _⟩ := h
    rfl
  · obtain ⟨rows, Dr, w, pr, rfl, T, P, rfl⟩ := hR
    have w4 := T.w4
    have tl := treeM_len (pr := pr) T.few7
    refine ⟨.rt (.dat (.int (worthM (treeM Dr pr) pr))), ?_, .inl rfl⟩
    refine db_cons (ds_set 2 (pv_pu (d := D (treeM Dr pr)) (dw_ties (dw_call F1 (da_cons (dv' 0) (da_one (dv' 1))) ⟨rows, Dr, w, pr, rfl, T, P, rfl⟩)))) ?_
    exact db_one (ds_ret (dw_sum (dn_w (dn_lcM (t := .tup [3, 4]) (own := [("one", 3), ("other", 4)]) (treeM Dr pr) (fun x => D x) (fun t => apartM t.1 t.2 pr) (di_listD (dv 2)) (blkOk_by (N := nLTies) (sc := defScope sLTies) (by decide +kernel)) (by decide) (fun _ _ _ _ _ => dg_tup rfl (dg_cons scLTies.nd 3 (dg_cons scLTies.nd 4 dg_nil)))
      (fun _ _ _ _ _ t ht => dw_call F2 (da_cons (dv' 3) (da_cons (dv' 4) (da_one (dv' 1)))) ⟨t.1, t.2, pr, rfl, by rw [T.rowW (treeM_mem ht).1, T.rowW (treeM_mem ht).2.1], by rw [T.rowW (treeM_mem ht).2.1, P.len], by rw [P.len]; exact w4, rfl⟩) (fun _ _ => rfl) (by omega)))))

/-! ### round_order -/
def nearM (ties : List Tie) (row : Row) : List Row := (ties.filter fun t => decide (row ∈ [t.1, t.2])).map fun t => if t.2 = row then t.1 else t.2
def nextM (ties : List Tie) (f : List Row) (row : Row) (rest : List Row) : List Row := sortD ((nearM ties row).filter fun l => decide (l ∉ f)) ++ rest
inductive ORun (ties : List Tie) : List Row → List Row → List Row → Prop where
  | done {f : List Row} : ORun ties f [] f
  | turn {f rest out : List Row} {row : Row} (hb : (nextM ties (f ++ [row]) row rest).length ≤ 1000) (h : ORun ties (f ++ [row]) (nextM ties (f ++ [row]) row rest) out) : ORun ties f (row :: rest) out
theorem ORun.len {ties : List Tie} {f l out : List Row} (h : ORun ties f l out) : f.length ≤ out.length := by
  induction h with
  | done => exact Nat.le_refl _
  | turn _ _ ih => rw [List.length_append, List.length_singleton] at ih; omega
abbrev sOrd : Stmt := top 39
abbrev nOrd : List Str := ["table", "prices", "ties", "found", "left", "row", "near", "one", "other", "late"]
theorem scOrd : FnScope nOrd ["table", "prices"] (defScope sOrd) := ⟨rfl, rfl, rfl, by decide +kernel, rfl, by decide +kernel, by decide +kernel⟩
def ROrd (ds : List XD) (d : XD) : Prop := ∃ (rows Dr : List Row) (w : Nat) (pr : Row) (out : List Row), ds = [.tab rows, D pr] ∧ TabOk rows Dr w ∧ PrOk pr w ∧ ORun (treeM Dr pr) [] (Dr.take 1) out ∧ out.length ≤ 1000 ∧ d = D (Tup.mk out)
abbrev wOrd : Stmt := stAt (defBody sOrd) 2
def oEnv (rows Dr : List Row) (pr : Row) (f l : List Row) : DEnv := ⟨[some (.x (.tab rows)), some (.x (D pr)), some (.x (D (treeM Dr pr))), some (.own (Ds f)), some (.x (D l)), none, none, none, none, none], false⟩
theorem def_ord (gl : Glob G) (F1 : Def G 5 "least_tree" RTree) (F2 : Def G 2 "rows_of" RRows) {f : Addr} {fd : FuncData} (F : Fun G.K "round_order" "round_order" sOrd f fd) (hm : G.mg "round_order" = some (.ref f)) (b : Binds G.K fd ["table", "prices"] []) : Def G 6 "round_order" ROrd := by
  refine def_ok gl F scOrd hm b (fun ds d h => ?_) fun cdv A outer s H E on ds d hR => ?_
  · obtain ⟨_, _, _, _, _, rfl, _⟩ := h
    rfl
  · obtain ⟨rows, Dr, w, pr, out, rfl, T, P, hrun, hz, rfl⟩ := hR
    have tl := treeM_len (pr := pr) T.few7
    have turns : ∀ {f0 l0 out : List Row}, ORun (treeM Dr pr) f0 l0 out → out.length ≤ 1000 → WRun G (Bx G nOrd "round_order" sOrd f cdv A outer s H E) (wC wOrd) (wB wOrd) (oEnv rows Dr pr f0 l0) (oEnv rows Dr pr out []) := by
      intro f0 l0 out hj
      induction hj with
      | done => exact fun _ => .done (dt_ne (x := ([] : List Row)) (y := []) (dv' 4) (dn_w dn_lst0))
      | @turn f0 rest out row hb hj ih =>
        intro hz
        have hl := hj.len
        rw [List.length_append, List.length_singleton] at hl
        have cond : DT G (Bx G nOrd "round_order" sOrd f cdv A outer s H E) (wC wOrd) (oEnv rows Dr pr f0 (row :: rest)) true := by
          have e : true = decide (row :: rest ≠ []) := by simp
          rw [e]
          exact dt_ne (x := row :: rest) (y := ([] : List Row)) (dv' 4) (dn_w dn_lst0)
        refine .turn cond ?_ (ih hz)
        refine db_cons (ds_set 5 (pv_im (d := D row) (dw_ixL (i := 0) (d := toD row) (dv' 4) dc_int rfl rfl) (imD row))) ?_
        refine db_cons (ds_append 3 (he := dv' 5) (him := Imm.imm row) (hz := by rw [List.length_map]; omega)) ?_
        rw [← Ds_app]
        refine db_cons (ds_setLc 6 (t := .tup [7, 8]) (s := .x (D (nearM (treeM Dr pr) row))) (own := [("one", 7), ("other", 8)]) (treeM Dr pr) (fun x => D x) (fun t => decide (row ∈ [t.1, t.2])) (fun t => toD (if t.2 = row then t.1 else t.2)) ?_ (di_listD (dv 2)) (blkOk_by (N := nOrd) (sc := defScope sOrd) (by decide +kernel)) (by decide) (fun _ _ _ _ _ => dg_tup rfl (dg_cons scOrd.nd 7 (dg_cons scOrd.nd 8 dg_nil)))
          (fun _ _ _ _ _ t ht => pts_t (dt_inT (x := row) (ys := [t.1, t.2]) (dv' 5) (dw_tup2 (dv' 7) (dv' 8)))) (fun _ _ _ _ _ t ht _ => dw_if (dt_eq (x := t.2) (y := row) (dv' 8) (dv' 5)) (fun hk => ?_) (fun hk => ?_)) (fun _ _ => rfl) (fun _ _ _ => Imm.imm _) (by omega)) ?_
        · have e : ((treeM Dr pr).filter fun t => decide (row ∈ [t.1, t.2])).map (fun t => toD (if t.2 = row then t.1 else t.2)) = Ds (nearM (treeM Dr pr) row) := by
            unfold nearM Ds
            rw [List.map_map]
            rfl
          rw [e]
          exact .x
        · rw [if_pos (by simpa using hk)]
          exact dv' 7
        · rw [if_neg (by simpa using hk)]
          exact dv' 8
        have hnear : ∀ x, x ∈ nearM (treeM Dr pr) row → x ∈ Dr := fun x hx => by
          obtain ⟨t, ht, rfl⟩ := List.mem_map.mp hx
          have := treeM_mem (List.mem_filter.mp ht).1
          split
          · exact this.1
          · exact this.2.1
        have hs : PySem.W.Sortable (Ds ((nearM (treeM Dr pr) row).filter fun l => decide (l ∉ f0 ++ [row]))) := .inl fun d hd => by
          obtain ⟨x, hx, rfl⟩ := List.mem_map.mp hd
          have hw := T.rowW (hnear x (List.mem_filter.mp hx).1)
          have w1 := T.w1
          obtain ⟨xi⟩ := x
          cases xi with
          | nil => simp at hw; omega
          | cons i is => exact ⟨.int i, is.map PyData.int, rfl⟩
        have nl : (nearM (treeM Dr pr) row).length ≤ 49 := by
          unfold nearM
          rw [List.length_map]
          exact Nat.le_trans (List.length_filter_le _ _) tl
        have fl := List.length_filter_le (fun l => decide (l ∉ f0 ++ [row])) (nearM (treeM Dr pr) row)
        have hb' : (sortD ((nearM (treeM Dr pr) row).filter fun l => decide (l ∉ f0 ++ [row]))).length + rest.length ≤ 1000 := by
          unfold nextM at hb
          rw [List.length_append] at hb
          exact hb
        refine db_less (db_one (ds_set 4 (pv_n (dn_star2 (xs := sortD ((nearM (treeM Dr pr) row).filter fun l => decide (l ∉ f0 ++ [row]))) (ys := rest) (dn_w (dn_sorted (xs := (nearM (treeM Dr pr) row).filter fun l => decide (l ∉ f0 ++ [row])) (dn_w (dn_lcF (t := .one 9) (own := [("late", 9)]) (nearM (treeM Dr pr) row) (fun x => D x) (fun l => decide (l ∉ f0 ++ [row])) (di_listD (dv 6)) (blkOk_by (N := nOrd) (sc := defScope sOrd) (by decide +kernel)) (by decide) (fun _ _ _ _ _ => dg_one scOrd.nd 9) (fun _ _ _ _ _ l _ => pts_t (dt_ninL (x := l) (ys := f0 ++ [row]) (dv' 9) (dvo 3))) (fun _ _ _ _ _ l _ _ => dv' 9) (fun _ _ => trivial) (by omega))) hs (by omega))) (dn_w (dn_drop (xs := row :: rest) (n := 1) (dv' 4) dc_int rfl)) hb')))) less_of
    refine ⟨.rt (D (Tup.mk out)), ?_, .inl rfl⟩
    refine db_cons (ds_parT 2 3 (pv_pu (d := D (treeM Dr pr)) (dw_ties (dw_call F1 (da_cons (dv' 0) (da_one (dv' 1))) ⟨rows, Dr, w, pr, rfl, T, P, rfl⟩))) (pv_own dn_lst0)) ?_
    refine db_cons (ds_set 4 (pv_n (dn_take (xs := Dr) (n := 1) (dw_call F2 (da_one (dv' 0)) ⟨rows, Dr, w, rfl, T, rfl⟩) dc_int rfl))) ?_
    exact db_cons (ds_while (turns hrun hz) PassesOwn.never) (db_one (ds_ret (dw_tuple (ys := Ds out) (dvo 3))))
end
end RC

/-! RdG: the law's defs: numbers, rows, prices. -/
namespace RC
open PySem L2
open PySem.W (Datum DatumOrd Tup T3 Holds HoldAll minOf maxOf EachIs)
def cellsM (sc : List Int) : List Int := if sc ≠ [] then sc.take 60 else [7]
def cellM (sc : List Int) (n : Nat) : Int := (cellsM sc).getD (n % (cellsM sc).length) 0 + 31 * ((n : Int) / ((cellsM sc).length : Int))
def mixM (sc : List Int) (n : Nat) : Int := (cellM sc n % 1000003 + 977 * (n : Int) + 13) * 48271 + cellM sc n / 1000003 % 999983
def numM (sc : List Int) (n : Nat) : Int := mixM sc n % 2147483647 * 65537 % 4294967291
theorem numM_bd (sc : List Int) (n : Nat) : 0 ≤ numM sc n ∧ numM sc n < 4294967291 := ⟨Int.emod_nonneg _ (by decide), Int.emod_lt_of_pos _ (by decide)⟩
theorem cells_len (sc : List Int) : 1 ≤ (cellsM sc).length ∧ (cellsM sc).length ≤ 60 := by
  unfold cellsM
  split
  · rename_i h
    have := List.length_pos_iff.mpr h
    rw [List.length_take]
    omega
  · simp
section
variable {G : Gx}
abbrev sNumb : Stmt := top 41
abbrev nNumb : List Str := ["_law_script", "_law_at", "_law_cells", "_law_cell", "_law_mixed"]
theorem scNumb : FnScope nNumb ["_law_script", "_law_at"] (defScope sNumb) := ⟨rfl, rfl, rfl, by decide +kernel, rfl, by decide +kernel, by decide +kernel⟩
def RNumb (ds : List XD) (d : XD) : Prop := ∃ (sc : List Int) (n : Nat), ds = [D sc, .dat (.int n)] ∧ n ≤ 100000 ∧ d = .dat (.int (numM sc n))
theorem def_numb (gl : Glob G) {f : Addr} {fd : FuncData} (F : Fun G.K "_law_number" "_law_number" sNumb f fd) (hm : G.mg "_law_number" = some (.ref f)) (b : Binds G.K fd ["_law_script", "_law_at"] []) : Def G 1 "_law_number" RNumb := by
  refine def_ok gl F scNumb hm b (fun ds d h => ?_) fun cdv A outer s H E on ds d hR => ?_
  · obtain ⟨_, _, rfl, _⟩ := h
    rfl
  · obtain ⟨sc, n, rfl, hn, rfl⟩ := hR
    obtain ⟨l1, l2⟩ := cells_len sc
    have hmod : n % (cellsM sc).length < (cellsM sc).length := Nat.mod_lt _ (by omega)
    refine ⟨.rt (.dat (.int (numM sc n))), ?_, .inl rfl⟩
    refine db_cons (ds_set 2 (s := .x (D (cellsM sc))) (pv_if (dt_ne (x := sc) (y := ([] : List Int)) (dv' 0) (dn_w dn_lst0)) (fun hk => ?_) (fun hk => ?_))) ?_
    · have e : cellsM sc = sc.take 60 := if_pos (by simpa using hk)
      rw [e]
      exact pv_n (dn_take (xs := sc) (n := 60) (dv' 0) dc_int rfl)
    · have e : cellsM sc = [7] := if_neg (by simpa using hk)
      rw [e]
      exact pv_n (dn_lst1 (x := (7 : Int)) dc_int)
    refine db_cons (ds_set 3 (pv_im (d := .dat (.int (cellM sc n))) (dw_add (dw_ixL (i := n % (cellsM sc).length) (ys := Ds (cellsM sc)) (d := .int ((cellsM sc).getD (n % (cellsM sc).length) 0)) (dv' 2) (dw_mod (dv' 1) (dw_len (α := Int) (dv' 2)) ?_) ?_ ?_) (dw_mul dc_int (dw_fdiv (dv' 1) (dw_len (α := Int) (dv' 2)) ?_) ?_)) rfl)) ?_
    · omega
    · exact (Int.natCast_emod _ _).symm
    · rw [List.getElem?_map, List.getD_eq_getElem?_getD, List.getElem?_eq_getElem hmod]
      rfl
    · exact ⟨by omega, by omega⟩
    · exact .inl ⟨by decide, by decide⟩
    refine db_cons (ds_set 4 (pv_im (d := .dat (.int (mixM sc n))) (dw_add (dw_mul (dw_add (dw_add (dw_mod (dw_int (dv' 3)) dc_int (by decide)) (dw_mul dc_int (dv' 1) (.inl ⟨by decide, by decide⟩))) dc_int) dc_int (.inr ⟨by decide, by decide⟩)) (dw_mod (dw_int (dw_fdiv (dv' 3) dc_int ⟨by decide, by decide⟩)) dc_int (by decide))) rfl)) ?_
    exact db_one (ds_ret (dw_mod (dw_mul (dw_mod (dv' 4) dc_int (by decide)) dc_int (.inr ⟨by decide, by decide⟩)) dc_int (by decide)))

/-! ### rows -/
def drawnM (sc : List Int) (at_ c i : Nat) : List Int := (List.range (c + 1)).map fun p => numM sc (at_ + 1 + i * 5 + p)
def newM (sc : List Int) (at_ c v i : Nat) : Row := Tup.mk ((List.range c).map fun p => (drawnM sc at_ c i).getD p 0 % (v : Int))
def lastM (sc : List Int) (at_ c i : Nat) : Int := (drawnM sc at_ c i).getD c 0
def rowStep (sc : List Int) (at_ c v : Nat) (f : List Row) (i : Nat) : List Row :=
  f ++ [if f ≠ [] ∧ lastM sc at_ c i % 5 = 0 then f.getD (lastM sc at_ c i % (f.length : Int)).toNat (Tup.mk []) else newM sc at_ c v i]
def manyM (sc : List Int) (at_ most : Nat) : Nat := (1 + numM sc at_ % (most : Int)).toNat
def rowsM (sc : List Int) (at_ most c v : Nat) : List Row := (List.range (manyM sc at_ most)).foldl (rowStep sc at_ c v) []
theorem many_bd (sc : List Int) (at_ most : Nat) (h : 1 ≤ most) : 1 ≤ manyM sc at_ most ∧ manyM sc at_ most ≤ most ∧ ((manyM sc at_ most : Nat) : Int) = 1 + numM sc at_ % (most : Int) := by
  have h1 := Int.emod_nonneg (numM sc at_) (show (most : Int) ≠ 0 by omega)
  have h2 := Int.emod_lt_of_pos (numM sc at_) (show (0 : Int) < most by omega)
  unfold manyM
  omega
theorem range_take {n i : Nat} (h : i ≤ n) : (List.range n).take i = List.range i := by
  rw [List.take_range, Nat.min_eq_left h]
theorem foldl_range {α : Type} (step : α → Nat → α) (a : α) (i : Nat) : (List.range (i + 1)).foldl step a = step ((List.range i).foldl step a) i := by
  rw [List.range_succ, List.foldl_append]
  rfl
theorem rows_len (sc : List Int) (at_ c v : Nat) : ∀ i, ((List.range i).foldl (rowStep sc at_ c v) []).length = i := by
  intro i
  induction i with
  | zero => rfl
  | succ i ih =>
    have : ∀ f : List Row, (rowStep sc at_ c v f i).length = f.length + 1 := fun f => by unfold rowStep; simp
    rw [foldl_range, this, ih]
abbrev sLRows : Stmt := top 42
abbrev nLRows : List Str := ["_law_script", "_law_at", "_law_most", "_law_columns", "_law_values", "_law_many", "_law_found", "_law_row", "_law_drawn", "_law_new", "_law_place"]
theorem scLRows : FnScope nLRows ["_law_script", "_law_at", "_law_most", "_law_columns", "_law_values"] (defScope sLRows) := ⟨rfl, rfl, rfl, by decide +kernel, rfl, by decide +kernel, by decide +kernel⟩
def RLRows (ds : List XD) (d : XD) : Prop := ∃ (sc : List Int) (at_ most c v : Nat), ds = [D sc, .dat (.int at_), .dat (.int most), .dat (.int c), .dat (.int v)] ∧ at_ ≤ 1000 ∧ 1 ≤ most ∧ most ≤ 10 ∧ c ≤ 4 ∧ 1 ≤ v ∧ v ≤ 100 ∧ d = D (rowsM sc at_ most c v)
theorem int_nat {X : Cx} {r : DEnv} {e : Expr} {i : Int} {n : Nat} (h : DW G X e r (.dat (.int i))) (hi : i = (n : Int)) : DW G X e r (.dat (.int (n : Int))) := by rw [← hi]; exact h
theorem di_rangeN {X : Cx} {lv : Nat} {r : DEnv} {a tg : Expr} {p pos : Pos} [o : On G X lv] {n : Nat} (h : DW G X a r (.dat (.int (n : Int)))) (hn : n < 100000) (hg : Gl X "range" := by rfl) (hs : starEach [a] X.env = [(false, eval a X.env)] := by rfl) :
    DI G X tg (.Call (.Name "range" p) [a] [] pos) r ((List.range n).map fun (i : Nat) => XD.dat (.int i)) := by
  have := di_range (tg := tg) (p := p) (pos := pos) h ⟨by omega, by omega⟩ hg hs
  rwa [Int.toNat_natCast] at this
theorem dr_get (sc : List Int) (at_ c i p : Nat) (hp : p ≤ c) : (Ds (drawnM sc at_ c i))[p]? = some (.int ((drawnM sc at_ c i).getD p 0)) := by
  have : p < (drawnM sc at_ c i).length := by unfold drawnM; rw [List.length_map, List.length_range]; omega
  rw [List.getElem?_map, List.getD_eq_getElem?_getD, List.getElem?_eq_getElem this]
  rfl
theorem def_lRows (gl : Glob G) (F1 : Def G 1 "_law_number" RNumb) {f : Addr} {fd : FuncData} (F : Fun G.K "_law_rows" "_law_rows" sLRows f fd) (hm : G.mg "_law_rows" = some (.ref f)) (b : Binds G.K fd ["_law_script", "_law_at", "_law_most", "_law_columns", "_law_values"] []) : Def G 2 "_law_rows" RLRows := by
  refine def_ok gl F scLRows hm b (fun ds d h => ?_) fun cdv A outer s H E on ds d hR => ?_
  · obtain ⟨_, _, _, _, _, rfl, _⟩ := h
    rfl
  · obtain ⟨sc, at_, most, c, v, rfl, ha, hm1, hm2, hc, hv1, hv2, rfl⟩ := hR
    obtain ⟨m1, m2, m3⟩ := many_bd sc at_ most hm1
    refine ⟨.rt (D (rowsM sc at_ most c v)), ?_, .inl rfl⟩
    refine db_cons (ds_par 5 6 (pv_im (d := .dat (.int ((manyM sc at_ most : Nat) : Int))) (int_nat (dw_add dc_int (dw_mod (dw_int (dw_call F1 (da_cons (dv' 0) (da_one (dv' 1))) ⟨sc, at_, rfl, by omega, rfl⟩)) (dv' 2) (by omega))) m3.symm) rfl) (pv_own dn_lst0)) ?_
    have e0 : ((List.range (manyM sc at_ most)).map fun (i : Nat) => XD.dat (.int i)).length = manyM sc at_ most := by simp
    refine db_cons (ds_for (t := .one 7) (di_rangeN (n := manyM sc at_ most) (dv' 5) (by omega)) (dg_one scLRows.nd 7)
        (frun_ix (fun i => ⟨[some (.x (D sc)), some (.x (.dat (.int at_))), some (.x (.dat (.int most))), some (.x (.dat (.int c))), some (.x (.dat (.int v))), some (.x (.dat (.int ((manyM sc at_ most : Nat) : Int)))), some (.own (Ds ((List.range i).foldl (rowStep sc at_ c v) []))), none, none, none, none], false⟩) fun i dd hd => ?_) PassesOwn.never) ?_
    rotate_left
    · rw [e0]
      exact db_one (ds_ret (dvo 6))
    · rw [List.getElem?_map] at hd
      obtain ⟨i', hi', rfl⟩ := Option.map_eq_some_iff.mp hd
      have hlt := (List.getElem?_eq_some_iff.mp hi').1
      rw [List.getElem?_range (by simpa using hlt)] at hi'
      cases hi'
      rw [List.length_range] at hlt
      rw [foldl_range]
      have fl := rows_len sc at_ c v i
      generalize (List.range i).foldl (rowStep sc at_ c v) [] = found at fl
      let last : Int := lastM sc at_ c i
      let new : Row := newM sc at_ c v i
      have gd : ∀ p, p ≤ c → (Ds (drawnM sc at_ c i))[p]? = some (.int ((drawnM sc at_ c i).getD p 0)) := fun p hp => dr_get sc at_ c i p hp
      refine ⟨trivial, ⟨[some (.x (D sc)), some (.x (.dat (.int at_))), some (.x (.dat (.int most))), some (.x (.dat (.int c))), some (.x (.dat (.int v))), some (.x (.dat (.int ((manyM sc at_ most : Nat) : Int)))), some (.own (Ds (rowStep sc at_ c v found i))), some (.x (.dat (.int i))), some (.x (D (drawnM sc at_ c i))), some (.x (D new)), none], false⟩, ?_, less_of⟩
      refine db_cons (ds_set 8 (s := .x (D (drawnM sc at_ c i))) (pv_n (dn_lcM (t := .one 10) (own := [("_law_place", 10)]) (List.range (c + 1)) (fun (p : Nat) => XD.dat (.int p)) (fun p => numM sc (at_ + 1 + i * 5 + p)) (di_rangeN (n := c + 1) (int_nat (dw_add (dv' 3) dc_int) rfl) (by omega)) (blkOk_by (N := nLRows) (sc := defScope sLRows) (by decide +kernel)) (by decide) (fun _ _ _ _ _ => dg_one scLRows.nd 10) (fun _ _ _ _ _ p hp => ?_) (fun _ _ => trivial) (by simp; omega)))) ?_
      · exact dw_int (dw_call F1 (da_cons (dv' 0) (da_one (int_nat (n := at_ + 1 + i * 5 + p) (dw_add (dw_add (dw_add (dv' 1) dc_int) (dw_mul (dv' 7) dc_int (.inr ⟨by decide, by decide⟩))) (dv' 10)) (by omega)))) ⟨sc, at_ + 1 + i * 5 + p, rfl, by have := List.mem_range.mp hp; omega, rfl⟩)
      refine db_cons (ds_set 9 (pv_im (d := D new) (dw_tuple (ys := Ds new.items) (dn_w (dn_lcM (t := .one 10) (own := [("_law_place", 10)]) (List.range c) (fun (p : Nat) => XD.dat (.int p)) (fun p => (drawnM sc at_ c i).getD p 0 % (v : Int)) (di_rangeN (n := c) (dv' 3) (by omega)) (blkOk_by (N := nLRows) (sc := defScope sLRows) (by decide +kernel)) (by decide) (fun _ _ _ _ _ => dg_one scLRows.nd 10) (fun _ _ _ _ _ p hp => dw_mod (dw_ixL (i := p) (dv' 8) (dv' 10) rfl (gd p (by have := List.mem_range.mp hp; omega))) (dv' 4) (by omega)) (fun _ _ => trivial) (by simp; omega)))) (imD new))) ?_
      let pick : Row := if found ≠ [] ∧ last % 5 = 0 then found.getD (last % (found.length : Int)).toNat (Tup.mk []) else new
      have er : rowStep sc at_ c v found i = found ++ [pick] := rfl
      rw [er, Ds_app]
      refine db_one (ds_append 6 (d := toD pick) (he := dw_if (PW.pt (dt_and (dt_ne (x := found) (y := ([] : List Row)) (dvo 6) (dn_w dn_lst0)) fun hk => dt_and1 (dt_eq (x := last % 5) (y := (0 : Int)) (dw_mod (dw_ixL (i := c) (dv' 8) (dv' 3) rfl (gd c (Nat.le_refl _))) dc_int (by decide)) dc_int))) (fun hk => ?_) (fun hk => ?_)) (him := Imm.imm pick) (hz := by rw [List.length_map]; omega))
      · rw [Bool.and_eq_true, decide_eq_true_eq, decide_eq_true_eq] at hk
        have ep : pick = found.getD (last % (found.length : Int)).toNat (Tup.mk []) := if_pos hk
        have hpos : 0 < found.length := List.length_pos_iff.mpr hk.1
        have hl1 := Int.emod_nonneg last (show (found.length : Int) ≠ 0 by omega)
        have hl2 := Int.emod_lt_of_pos last (show (0 : Int) < found.length by omega)
        have hlt2 : (last % (found.length : Int)).toNat < found.length := by omega
        rw [ep]
        refine dw_ixL (i := (last % (found.length : Int)).toNat) (ys := Ds found) (dvo 6) (dw_mod (dw_ixL (i := c) (dv' 8) (dv' 3) rfl (gd c (Nat.le_refl _))) (dw_len (α := Row) (dvo 6)) (by omega)) (Int.toNat_of_nonneg hl1).symm ?_
        rw [List.getElem?_map, List.getD_eq_getElem?_getD, List.getElem?_eq_getElem hlt2]
        rfl
      · have ep : pick = new := if_neg fun h => by
          have h2 : (decide (found ≠ []) && decide (last % 5 = 0)) = true := by rw [Bool.and_eq_true, decide_eq_true_eq, decide_eq_true_eq]; exact h
          rw [h2] at hk
          cases hk
        rw [ep]
        exact dv' 9
end
end RC

/-! RdH: the law's defs: apart, different, prices, grown, joined, worth. -/
namespace RC
open PySem L2
open PySem.W (Datum DatumOrd Tup T3 Holds HoldAll minOf maxOf EachIs)
section
variable {G : Gx}
abbrev sLApart : Stmt := top 43
abbrev nLApart : List Str := ["_law_one", "_law_other", "_law_prices_here", "_law_mine", "_law_theirs", "_law_price"]
theorem scLApart : FnScope nLApart ["_law_one", "_law_other", "_law_prices_here"] (defScope sLApart) := ⟨rfl, rfl, rfl, by decide +kernel, rfl, by decide +kernel, by decide +kernel⟩
theorem def_lApart (gl : Glob G) {f : Addr} {fd : FuncData} (F : Fun G.K "_law_apart" "_law_apart" sLApart f fd) (hm : G.mg "_law_apart" = some (.ref f)) (b : Binds G.K fd ["_law_one", "_law_other", "_law_prices_here"] []) : Def G 1 "_law_apart" RApart := by
  refine def_ok gl F scLApart hm b (fun ds d h => ?_) fun cdv A outer s H E on ds d hR => ?_
  · obtain ⟨_, _, _, rfl, _⟩ := h
    rfl
  · obtain ⟨x, y, p, rfl, l1, l2, l3, rfl⟩ := hR
    refine ⟨_, db_one (ds_ret (dw_sum (dn_w (dn_lcT (t := .tup [3, 4, 5]) (own := [("_law_mine", 3), ("_law_theirs", 4), ("_law_price", 5)]) (zip3 x.items y.items p.items) (fun q => XD.dat (.tuple [.int q.1, .int q.2.1, .int q.2.2])) (fun q => decide (q.1 ≠ q.2.1)) (fun q => q.2.2) (di_zipT3I (dv 0) (dv 1) (dv 2) l1 l2) (blkOk_by (N := nLApart) (sc := defScope sLApart) (by decide +kernel)) (by decide) (fun _ _ _ _ _ => dg_tup rfl (dg_cons scLApart.nd 3 (dg_cons scLApart.nd 4 (dg_cons scLApart.nd 5 dg_nil))))
      (fun _ _ _ _ _ q _ => pts_t (dt_ne (x := q.1) (y := q.2.1) (dv' 3) (dv' 4))) (fun _ _ _ _ _ q _ _ => dv' 5) (fun q _ => rfl) ?_)))), .inl rfl⟩
    unfold zip3
    rw [List.length_zip, List.length_zip]
    omega

def diffM (rows : List Row) : List Row := ((List.range rows.length).filter fun i => decide (i = 0) || decide ((sortD rows).getD (i - 1) (Tup.mk []) ≠ (sortD rows).getD i (Tup.mk []))).map fun i => (sortD rows).getD i (Tup.mk [])
abbrev sLDiff : Stmt := top 44
abbrev nLDiff : List Str := ["_law_rows_here", "_law_at", "_law_row"]
theorem scLDiff : FnScope nLDiff ["_law_rows_here"] (defScope sLDiff) := ⟨rfl, rfl, rfl, by decide +kernel, rfl, by decide +kernel, by decide +kernel⟩
def RLDiff (ds : List XD) (d : XD) : Prop := ∃ (rows : List Row), ds = [D rows] ∧ rows.length ≤ 1000 ∧ (∀ x, x ∈ rows → 1 ≤ x.items.length) ∧ d = D (diffM rows)
theorem rows_sortable {rows : List Row} (h : ∀ x, x ∈ rows → 1 ≤ x.items.length) : PySem.W.Sortable (Ds rows) := .inl fun d hd => by
  obtain ⟨x, hx, rfl⟩ := List.mem_map.mp hd
  have hw := h x hx
  obtain ⟨xi⟩ := x
  cases xi with
  | nil => simp at hw
  | cons i is => exact ⟨.int i, is.map PyData.int, rfl⟩
theorem def_lDiff (gl : Glob G) {f : Addr} {fd : FuncData} (F : Fun G.K "_law_different" "_law_different" sLDiff f fd) (hm : G.mg "_law_different" = some (.ref f)) (b : Binds G.K fd ["_law_rows_here"] []) : Def G 1 "_law_different" RLDiff := by
  refine def_ok gl F scLDiff hm b (fun ds d h => ?_) fun cdv A outer s H E on ds d hR => ?_
  · obtain ⟨_, rfl, _⟩ := h
    rfl
  · obtain ⟨rows, rfl, hz, hne, rfl⟩ := hR
    have hs := rows_sortable hne
    have sl := sortD_len rows
    have gd : ∀ i, i < rows.length → (Ds (sortD rows))[i]? = some (toD ((sortD rows).getD i (Tup.mk []))) := fun i hi => by
      rw [List.getElem?_map, List.getD_eq_getElem?_getD, List.getElem?_eq_getElem (by omega)]
      rfl
    have ei : ((List.range (Ds (sortD rows)).length).map fun (i : Nat) => XD.dat (.tuple [.int i, (Ds (sortD rows)).getD i .none])) = (List.range rows.length).map fun (i : Nat) => XD.dat (.tuple [.int i, toD ((sortD rows).getD i (Tup.mk []))]) := by
      rw [List.length_map, sl]
      refine List.map_congr_left fun i hi => ?_
      rw [List.getD_eq_getElem?_getD, gd i (List.mem_range.mp hi)]
      rfl
    refine ⟨.rt (D (diffM rows)), ?_, .inl rfl⟩
    refine db_one (ds_ret (dn_w (dn_lcT (t := .tup [1, 2]) (own := [("_law_at", 1), ("_law_row", 2)]) (List.range rows.length) (fun (i : Nat) => XD.dat (.tuple [.int i, toD ((sortD rows).getD i (Tup.mk []))])) (fun i => decide (i = 0) || decide ((sortD rows).getD (i - 1) (Tup.mk []) ≠ (sortD rows).getD i (Tup.mk []))) (fun i => (sortD rows).getD i (Tup.mk [])) ?_ (blkOk_by (N := nLDiff) (sc := defScope sLDiff) (by decide +kernel)) (by decide) (fun _ _ _ _ _ => dg_tup rfl (dg_cons scLDiff.nd 1 (dg_cons scLDiff.nd 2 dg_nil)))
      (fun _ _ _ _ _ i hi => pts_t ?_) (fun _ _ _ _ _ i _ _ => dv' 2) (fun _ _ => rfl) (by simp; omega))))
    · rw [← ei]
      exact di_enum (dn_e (dn_sorted (xs := rows) (dv' 0) hs (by omega))) (imsD _)
    · have hi := List.mem_range.mp hi
      have e : (decide (i = 0) || decide ((sortD rows).getD (i - 1) (Tup.mk []) ≠ (sortD rows).getD i (Tup.mk []))) = (decide ((i : Int) = 0) || decide ((sortD rows).getD (i - 1) (Tup.mk []) ≠ (sortD rows).getD i (Tup.mk []))) := by
        congr 1
        by_cases h : i = 0 <;> simp [h]
      rw [e]
      refine PW.pt (dt_or (dt_eq (x := (i : Int)) (y := 0) (dv' 1) dc_int) fun hk => dt_or1 (dt_ne (x := (sortD rows).getD (i - 1) (Tup.mk [])) (y := (sortD rows).getD i (Tup.mk [])) (dw_ixL (i := i - 1) (ys := Ds (sortD rows)) (dn_w (dn_sorted (xs := rows) (dv' 0) hs (by omega))) (dw_sub (dv' 1) dc_int) ?_ (gd (i - 1) (by omega))) (dv' 2)))
      have hk' : ¬ ((i : Int) = 0) := of_decide_eq_false hk
      omega

def pricesM (sc : List Int) (at_ c : Nat) : Row := Tup.mk ((List.range c).map fun p => numM sc (at_ + p) % 10)
abbrev sLPr : Stmt := top 45
abbrev nLPr : List Str := ["_law_script", "_law_at", "_law_columns", "_law_place"]
theorem scLPr : FnScope nLPr ["_law_script", "_law_at", "_law_columns"] (defScope sLPr) := ⟨rfl, rfl, rfl, by decide +kernel, rfl, by decide +kernel, by decide +kernel⟩
def RLPr (ds : List XD) (d : XD) : Prop := ∃ (sc : List Int) (at_ c : Nat), ds = [D sc, .dat (.int at_), .dat (.int c)] ∧ at_ ≤ 1000 ∧ c ≤ 4 ∧ d = D (pricesM sc at_ c)
theorem def_lPr (gl : Glob G) (F1 : Def G 1 "_law_number" RNumb) {f : Addr} {fd : FuncData} (F : Fun G.K "_law_prices" "_law_prices" sLPr f fd) (hm : G.mg "_law_prices" = some (.ref f)) (b : Binds G.K fd ["_law_script", "_law_at", "_law_columns"] []) : Def G 2 "_law_prices" RLPr := by
  refine def_ok gl F scLPr hm b (fun ds d h => ?_) fun cdv A outer s H E on ds d hR => ?_
  · obtain ⟨_, _, _, rfl, _⟩ := h
    rfl
  · obtain ⟨sc, at_, c, rfl, ha, hc, rfl⟩ := hR
    refine ⟨.rt (D (pricesM sc at_ c)), ?_, .inl rfl⟩
    exact db_one (ds_ret (dw_tuple (ys := Ds ((List.range c).map fun p => numM sc (at_ + p) % 10)) (dn_w (dn_lcM (t := .one 3) (own := [("_law_place", 3)]) (List.range c) (fun (p : Nat) => XD.dat (.int p)) (fun p => numM sc (at_ + p) % 10) (di_rangeN (n := c) (dv' 2) (by omega)) (blkOk_by (N := nLPr) (sc := defScope sLPr) (by decide +kernel)) (by decide) (fun _ _ _ _ _ => dg_one scLPr.nd 3)
      (fun _ _ _ _ _ p hp => dw_mod (dw_int (dw_call F1 (da_cons (dv' 0) (da_one (int_nat (n := at_ + p) (dw_add (dv' 1) (dv' 3)) (by omega)))) ⟨sc, at_ + p, rfl, by have := List.mem_range.mp hp; omega, rfl⟩)) dc_int (by decide)) (fun _ _ => trivial) (by simp; omega)))))

def ljStep (f : List Row) (t : Tie) : List Row := if decide (t.1 ∈ f) ≠ decide (t.2 ∈ f) then f ++ [if t.1 ∈ f then t.2 else t.1] else f
def ljM (rows : List Row) (ties : List Tie) : List Row := rows.foldl (fun f _ => ties.foldl ljStep f) (rows.take 1)
theorem ljStep_len (f : List Row) (t : Tie) : (ljStep f t).length ≤ f.length + 1 := by
  unfold ljStep
  split
  · simp
  · omega
theorem ljFold_len : ∀ (ties : List Tie) (f : List Row), (ties.foldl ljStep f).length ≤ f.length + ties.length
  | [], f => by simp
  | t :: ties, f => by
    rw [List.foldl_cons, List.length_cons]
    have h1 := ljFold_len ties (ljStep f t)
    have h2 := ljStep_len f t
    omega
theorem ljFold2_len (ties : List Tie) : ∀ (rows f : List Row), (rows.foldl (fun f _ => ties.foldl ljStep f) f).length ≤ f.length + rows.length * ties.length
  | [], f => by simp
  | r :: rows, f => by
    rw [List.foldl_cons, List.length_cons, Nat.add_mul]
    have h1 := ljFold2_len ties rows (ties.foldl ljStep f)
    have h2 := ljFold_len ties f
    omega
abbrev sLJ : Stmt := top 47
abbrev nLJ : List Str := ["_law_rows_here", "_law_ties", "_law_found", "_law_turn", "_law_one", "_law_other"]
theorem scLJ : FnScope nLJ ["_law_rows_here", "_law_ties"] (defScope sLJ) := ⟨rfl, rfl, rfl, by decide +kernel, rfl, by decide +kernel, by decide +kernel⟩
def RLJ (ds : List XD) (d : XD) : Prop := ∃ (rows : List Row) (ties : List Tie), ds = [D rows, D ties] ∧ rows.length ≤ 10 ∧ ties.length ≤ 100 ∧ d = .dat (.bool (decide (((ljM rows ties).length : Int) = (rows.length : Int))))
def ljEnv (rows : List Row) (ties : List Tie) (f : List Row) : DEnv := ⟨[some (.x (D rows)), some (.x (D ties)), some (.x (D f)), none, none, none], true⟩
theorem def_lJ (gl : Glob G) {f : Addr} {fd : FuncData} (F : Fun G.K "_law_joined" "_law_joined" sLJ f fd) (hm : G.mg "_law_joined" = some (.ref f)) (b : Binds G.K fd ["_law_rows_here", "_law_ties"] []) : Def G 1 "_law_joined" RLJ := by
  refine def_ok gl F scLJ hm b (fun ds d h => ?_) fun cdv A outer s H E on ds d hR => ?_
  · obtain ⟨_, _, rfl, _⟩ := h
    rfl
  · obtain ⟨rows, ties, rfl, hz, hz2, rfl⟩ := hR
    refine ⟨.rt (.dat (.bool (decide (((ljM rows ties).length : Int) = (rows.length : Int))))), ?_, .inl rfl⟩
    refine db_cons (ds_set 2 (pv_n (dn_take (xs := rows) (n := 1) (dv' 0) dc_int rfl))) ?_
    have e0 : rows.take (rows.map fun x => D x).length = rows := by rw [List.length_map, List.take_length]
    have e1 : ties.take (ties.map fun x => D x).length = ties := by rw [List.length_map, List.take_length]
    refine db_cons (ds_for (t := .one 3) (di_listD (xs := rows) (dv 0)) (dg_one scLJ.nd 3) (frun_ix (fun i => ljEnv rows ties ((rows.take i).foldl (fun f _ => ties.foldl ljStep f) (rows.take 1))) fun i dd hd => ?_) PassesOwn.never) ?_
    rotate_left
    · rw [e0]
      exact db_one (ds_ret (dw_eq (x := ((ljM rows ties).length : Int)) (y := (rows.length : Int)) (dw_len (α := Row) (dv' 2)) (dw_len (α := Row) (dv' 0))))
    · rw [List.getElem?_map] at hd
      obtain ⟨row, hrow, rfl⟩ := Option.map_eq_some_iff.mp hd
      have et : rows.take (i + 1) = rows.take i ++ [row] := List.take_add_one.trans (by rw [hrow]; rfl)
      have lt0 : (rows.take i).length ≤ 10 := by rw [List.length_take]; omega
      have lf := ljFold2_len ties (rows.take i) (rows.take 1)
      have lm : (rows.take i).length * ties.length ≤ 10 * 100 := Nat.mul_le_mul lt0 hz2
      have l1 : (rows.take 1).length ≤ 1 := by rw [List.length_take]; omega
      rw [et, List.foldl_append]
      show tgOk _ _ ∧ ∃ r1, _ ∧ Less (ljEnv rows ties (ties.foldl ljStep ((rows.take i).foldl (fun f _ => ties.foldl ljStep f) (rows.take 1)))) r1
      generalize (rows.take i).foldl (fun f _ => ties.foldl ljStep f) (rows.take 1) = f0 at lf
      refine ⟨trivial, _, db_one ?_, less_of (b := ⟨[some (.x (D rows)), some (.x (D ties)), some (.x (D (ties.foldl ljStep f0))), some (.x (D row)), none, none], true⟩)⟩
      have loop := frun_ix (G := G) (X := Bx G nLJ "_law_joined" sLJ f cdv A outer s H E) (t := .tup [4, 5]) (ds := ties.map fun x => D x) (body := wB (stAt (wB (stAt (defBody sLJ) 1)) 0)) (fun i => ⟨[some (.x (D rows)), some (.x (D ties)), some (.x (D ((ties.take i).foldl ljStep f0))), some (.x (D row)), none, none], true⟩) fun i dd hd => ?_
      · rw [e1] at loop
        exact ds_for (t := .tup [4, 5]) (di_listD (xs := ties) (dv 1)) (dg_tup rfl (dg_cons scLJ.nd 4 (dg_cons scLJ.nd 5 dg_nil))) loop PassesOwn.never
      · rw [List.getElem?_map] at hd
        obtain ⟨t, ht, rfl⟩ := Option.map_eq_some_iff.mp hd
        have et2 : ties.take (i + 1) = ties.take i ++ [t] := List.take_add_one.trans (by rw [ht]; rfl)
        have lg := ljFold_len (ties.take i) f0
        rw [List.length_take] at lg
        rw [et2, List.foldl_append]
        show tgOk _ _ ∧ ∃ r1, _ ∧ Less ⟨[some (.x (D rows)), some (.x (D ties)), some (.x (D (ljStep ((ties.take i).foldl ljStep f0) t))), some (.x (D row)), none, none], true⟩ r1
        generalize (ties.take i).foldl ljStep f0 = g at lg
        have gl' : g.length ≤ 5000 := by omega
        obtain ⟨t1, t2⟩ := t
        refine ⟨rfl, _, db_one ?_, less_of (b := ⟨[some (.x (D rows)), some (.x (D ties)), some (.x (D (ljStep g (t1, t2)))), some (.x (D row)), some (.x (D t1)), some (.x (D t2))], true⟩)⟩
        by_cases hc : decide (t1 ∈ g) ≠ decide (t2 ∈ g)
        · have ej : ljStep g (t1, t2) = g ++ [if t1 ∈ g then t2 else t1] := if_pos hc
          rw [ej]
          refine ds_then (dt_ne (x := decide (t1 ∈ g)) (y := decide (t2 ∈ g)) (dw_inL (x := t1) (ys := g) (dv' 4) (dv' 2)) (dw_inL (x := t2) (ys := g) (dv' 5) (dv' 2))) (decide_eq_true hc) (db_one (ds_set 2 (pv_n (dn_cat (xs := g) (ys := [if t1 ∈ g then t2 else t1]) (dv' 2) (dn_w (dn_lst1 (dw_if (dt_inL (x := t1) (ys := g) (dv' 4) (dv' 2)) (fun hk => ?_) (fun hk => ?_)))) (by simp; omega)))))
          · rw [if_pos (of_decide_eq_true hk)]
            exact dv' 5
          · rw [if_neg (of_decide_eq_false hk)]
            exact dv' 4
        · have ej : ljStep g (t1, t2) = g := if_neg hc
          rw [ej]
          exact ds_skip (dt_ne (x := decide (t1 ∈ g)) (y := decide (t2 ∈ g)) (dw_inL (x := t1) (ys := g) (dv' 4) (dv' 2)) (dw_inL (x := t2) (ys := g) (dv' 5) (dv' 2))) (decide_eq_false hc)

abbrev sLW : Stmt := top 48
abbrev nLW : List Str := ["_law_ties", "_law_prices_here", "_law_one", "_law_other"]
theorem scLW : FnScope nLW ["_law_ties", "_law_prices_here"] (defScope sLW) := ⟨rfl, rfl, rfl, by decide +kernel, rfl, by decide +kernel, by decide +kernel⟩
def RLW (ds : List XD) (d : XD) : Prop := ∃ (ties : List Tie) (pr : Row) (w : Nat), ds = [D ties, D pr] ∧ ties.length ≤ 1000 ∧ w ≤ 4 ∧ pr.items.length = w ∧ (∀ t, t ∈ ties → t.1.items.length = w ∧ t.2.items.length = w) ∧ d = .dat (.int (worthM ties pr))
theorem def_lW (gl : Glob G) (F1 : Def G 1 "_law_apart" RApart) {f : Addr} {fd : FuncData} (F : Fun G.K "_law_worth" "_law_worth" sLW f fd) (hm : G.mg "_law_worth" = some (.ref f)) (b : Binds G.K fd ["_law_ties", "_law_prices_here"] []) : Def G 2 "_law_worth" RLW := by
  refine def_ok gl F scLW hm b (fun ds d h => ?_) fun cdv A outer s H E on ds d hR => ?_
  · obtain ⟨_, _, _, rfl, _⟩ := h
    rfl
  · obtain ⟨ties, pr, w, rfl, hz, w4, hp, hw, rfl⟩ := hR
    exact ⟨_, db_one (ds_ret (dw_sum (dn_w (dn_lcM (t := .tup [2, 3]) (own := [("_law_one", 2), ("_law_other", 3)]) ties (fun x => D x) (fun t => apartM t.1 t.2 pr) (di_listD (dv 0)) (blkOk_by (N := nLW) (sc := defScope sLW) (by decide +kernel)) (by decide) (fun _ _ _ _ _ => dg_tup rfl (dg_cons scLW.nd 2 (dg_cons scLW.nd 3 dg_nil)))
      (fun _ _ _ _ _ t ht => dw_call F1 (da_cons (dv' 2) (da_cons (dv' 3) (da_one (dv' 1)))) ⟨t.1, t.2, pr, rfl, by rw [(hw t ht).1, (hw t ht).2], by rw [(hw t ht).2, hp], by rw [hp]; exact w4, rfl⟩) (fun _ _ => rfl) (by omega))))), .inl rfl⟩
end
end RC

/-! RdI: the law's defs: grown. -/
namespace RC
open PySem L2
open PySem.W (Datum DatumOrd Tup T3 Holds HoldAll minOf maxOf EachIs)
abbrev Way3 := T3 Int Row Row
def waysM (rows : List Row) (pr : Row) (J : List Row) : List Way3 := J.flatMap fun one => (rows.filter fun other => decide (other ∉ J)).map fun other => T3.mk (apartM one other pr) one other
def ordM (a b : Row) : Tie := (if DatumOrd.lt b a = true then b else a, if DatumOrd.lt a b = true then b else a)
inductive GRun (rows : List Row) (pr : Row) : List Row → List Tie → List Tie → Prop where
  | done {J : List Row} {F : List Tie} (h : ¬ J.length < rows.length) : GRun rows pr J F F
  | turn {J : List Row} {F out : List Tie} {q : Way3} {qs : List Way3} (h : J.length < rows.length) (hw : waysM rows pr J = q :: qs) (hn : GRun rows pr (J ++ [(minOf q qs).c]) (F ++ [ordM (minOf q qs).b (minOf q qs).c]) out) : GRun rows pr J F out
section
variable {G : Gx}
abbrev sGr : Stmt := top 46
abbrev nGr : List Str := ["_law_rows_here", "_law_prices_here", "_law_joined_now", "_law_found", "_law_ways", "_law_one", "_law_other", "_law_price"]
theorem scGr : FnScope nGr ["_law_rows_here", "_law_prices_here"] (defScope sGr) := ⟨rfl, rfl, rfl, by decide +kernel, rfl, by decide +kernel, by decide +kernel⟩
def RGr (ds : List XD) (d : XD) : Prop := ∃ (rows : List Row) (pr : Row) (w : Nat) (out : List Tie), ds = [D rows, D pr] ∧ rows.length ≤ 7 ∧ w ≤ 4 ∧ pr.items.length = w ∧ (∀ x, x ∈ rows → x.items.length = w) ∧ GRun rows pr (rows.take 1) [] out ∧ d = D (sortD out)
abbrev wGr : Stmt := stAt (defBody sGr) 1
def gEnv (rows : List Row) (pr : Row) (J : List Row) (F : List Tie) : DEnv := ⟨[some (.x (D rows)), some (.x (D pr)), some (.x (D J)), some (.own (Ds F)), none, none, none, none], false⟩
theorem ways_len (rows : List Row) (pr : Row) (J : List Row) : (waysM rows pr J).length ≤ J.length * rows.length := filt_len J rows (fun _ other => decide (other ∉ J)) fun one other => T3.mk (apartM one other pr) one other
theorem ways_mem {rows : List Row} {pr : Row} {J : List Row} {q : Way3} : q ∈ waysM rows pr J ↔ q.b ∈ J ∧ q.c ∈ rows ∧ q.c ∉ J ∧ q.a = apartM q.b q.c pr := by
  unfold waysM
  rw [List.mem_flatMap]
  constructor
  · rintro ⟨x, hx, h⟩
    obtain ⟨y, hy, rfl⟩ := List.mem_map.mp h
    obtain ⟨h1, h2⟩ := List.mem_filter.mp hy
    exact ⟨hx, h1, by simpa using h2, rfl⟩
  · rintro ⟨h1, h2, h3, h4⟩
    refine ⟨q.b, h1, List.mem_map.mpr ⟨q.c, List.mem_filter.mpr ⟨h2, by simpa using h3⟩, ?_⟩⟩
    obtain ⟨a, b, c⟩ := q
    simp only at h4
    rw [h4]
theorem GRun.len {rows : List Row} {pr : Row} {J : List Row} {F out : List Tie} (h : GRun rows pr J F out) : F.length ≤ J.length → J.length ≤ rows.length → out.length ≤ rows.length := by
  induction h with
  | done h => intro h1 h2; omega
  | turn h hw _ ih =>
    intro h1 h2
    refine ih ?_ ?_
    · simp; omega
    · simp; omega
theorem def_gr (gl : Glob G) (F1 : Def G 1 "_law_apart" RApart) {f : Addr} {fd : FuncData} (F : Fun G.K "_law_grown" "_law_grown" sGr f fd) (hm : G.mg "_law_grown" = some (.ref f)) (b : Binds G.K fd ["_law_rows_here", "_law_prices_here"] []) : Def G 2 "_law_grown" RGr := by
  refine def_ok gl F scGr hm b (fun ds d h => ?_) fun cdv A outer s H E on ds d hR => ?_
  · obtain ⟨_, _, _, _, rfl, _⟩ := h
    rfl
  · obtain ⟨rows, pr, w, out, rfl, hz, w4, hp, hw, hrun, rfl⟩ := hR
    have turns : ∀ {J : List Row} {F out : List Tie}, GRun rows pr J F out → F.length ≤ J.length → (∀ x, x ∈ J → x.items.length = w) → ∃ J', WRun G (Bx G nGr "_law_grown" sGr f cdv A outer s H E) (wC wGr) (wB wGr) (gEnv rows pr J F) (gEnv rows pr J' out) := by
      intro J F out hj
      induction hj with
      | @done J F h =>
        refine fun _ _ => ⟨J, .done ?_⟩
        have e : false = decide ((J.length : Int) < (rows.length : Int)) := by
          rw [eq_comm, decide_eq_false_iff_not]
          omega
        rw [e]
        exact dt_ltI (dw_len (α := Row) (dv' 2)) (dw_len (α := Row) (dv' 0))
      | @turn J F out q qs h hways hn ih =>
        intro hF hJw
        have J7 : J.length ≤ 7 := by omega
        have wl := ways_len rows pr J
        have wl2 := mul7 J7 hz
        have hmin : minOf q qs ∈ waysM rows pr J := by rw [hways]; exact minOf_mem q qs
        obtain ⟨m1, m2, m3, _⟩ := ways_mem.mp hmin
        obtain ⟨J', hr⟩ := ih (by simp; omega) (fun x hx => by
          rcases List.mem_append.mp hx with hx | hx
          · exact hJw x hx
          · rw [List.mem_singleton.mp hx]; exact hw _ m2)
        refine ⟨J', .turn ?_ ?_ hr⟩
        · have e : true = decide ((J.length : Int) < (rows.length : Int)) := by
            rw [eq_comm, decide_eq_true_eq]
            omega
          rw [e]
          exact dt_ltI (dw_len (α := Row) (dv' 2)) (dw_len (α := Row) (dv' 0))
        refine db_cons (ds_set 4 (pv_n dn_lst0)) ?_
        have e1 : J.take (J.map fun x => D x).length = J := by rw [List.length_map, List.take_length]
        let part : Nat → List Way3 := fun i => (J.take i).flatMap fun one => (rows.filter fun other => decide (other ∉ J)).map fun other => T3.mk (apartM one other pr) one other
        have epart : part (J.map fun x => D x).length = waysM rows pr J := by show (J.take _).flatMap _ = _; rw [e1]; rfl
        have loop := frun_ix (G := G) (X := Bx G nGr "_law_grown" sGr f cdv A outer s H E) (t := .one 5) (ds := J.map fun x => D x) (body := wB (stAt (wB wGr) 1)) (fun i => ⟨[some (.x (D rows)), some (.x (D pr)), some (.x (D J)), some (.own (Ds F)), some (.x (D (part i))), none, none, none], false⟩) fun i dd hd => ?_
        · rw [epart] at loop
          refine db_cons (ds_for (t := .one 5) (di_listD (xs := J) (dv 2)) (dg_one scGr.nd 5) loop PassesOwn.never) ?_
          refine db_cons (ds_unpack (is := [7, 5, 6]) (ds := [toD (minOf q qs).a, toD (minOf q qs).b, toD (minOf q qs).c]) (de_im (dw_min (x := q) (xs := qs) ?_) (imD (minOf q qs))) (dg_tup rfl (dg_cons scGr.nd 7 (dg_cons scGr.nd 5 (dg_cons scGr.nd 6 dg_nil))))) ?_
          · rw [← hways]
            exact dv' 4
          refine db_cons (ds_set 2 (pv_n (dn_cat (xs := J) (ys := [(minOf q qs).c]) (dv' 2) (dn_w (dn_lst1 (x := (minOf q qs).c) (dv' 6))) (by simp; omega)))) ?_
          have ef : Ds (F ++ [ordM (minOf q qs).b (minOf q qs).c]) = Ds F ++ [toD (ordM (minOf q qs).b (minOf q qs).c)] := Ds_app _ _
          refine db_less (r1 := ⟨[some (.x (D rows)), some (.x (D pr)), some (.x (D (J ++ [(minOf q qs).c]))), some (.own (Ds F ++ [toD (ordM (minOf q qs).b (minOf q qs).c)])), some (.x (D (waysM rows pr J))), some (.x (.dat (toD (minOf q qs).b))), some (.x (.dat (toD (minOf q qs).c))), some (.x (.dat (toD (minOf q qs).a)))], false⟩) (db_one (ds_append 3 (he := dw_pair (dw_min2 (x := (minOf q qs).b) (y := (minOf q qs).c) (dv' 5) (dv' 6)) (dw_max2 (x := (minOf q qs).b) (y := (minOf q qs).c) (dv' 5) (dv' 6))) (him := Imm.imm (ordM (minOf q qs).b (minOf q qs).c)) (hz := by rw [List.length_map]; omega))) (by unfold gEnv; rw [ef]; exact less_of)
        · rw [List.getElem?_map] at hd
          obtain ⟨one, hone, rfl⟩ := Option.map_eq_some_iff.mp hd
          have et : J.take (i + 1) = J.take i ++ [one] := List.take_add_one.trans (by rw [hone]; rfl)
          have ep : part (i + 1) = part i ++ (rows.filter fun other => decide (other ∉ J)).map fun other => T3.mk (apartM one other pr) one other := by
            show (J.take (i + 1)).flatMap _ = (J.take i).flatMap _ ++ _
            rw [et, List.flatMap_append]
            simp
          have hone' := List.mem_of_getElem? hone
          have pl : (part i).length ≤ 49 := by
            refine Nat.le_trans (filt_len (J.take i) rows (fun _ other => decide (other ∉ J)) fun one other => T3.mk (apartM one other pr) one other) (mul7 ?_ hz)
            rw [List.length_take]; omega
          rw [ep]
          refine ⟨trivial, _, db_one (ds_set 4 (pv_n (dn_cat (xs := part i) (ys := (rows.filter fun other => decide (other ∉ J)).map fun other => T3.mk (apartM one other pr) one other) (dv' 4) (dn_w (dn_lcT (t := .one 6) (own := [("_law_other", 6)]) rows (fun x => D x) (fun other => decide (other ∉ J)) (fun other => T3.mk (apartM one other pr) one other) (di_listD (dv 0)) (blkOk_by (N := nGr) (sc := defScope sGr) (by decide +kernel)) (by decide) (fun _ _ _ _ _ => dg_one scGr.nd 6)
            (fun _ _ _ _ _ other _ => pts_t (dt_ninL (x := other) (ys := J) (dv' 6) (dv' 2))) (fun _ _ _ _ _ other ho _ => dw_t3 (dw_call F1 (da_cons (dv' 5) (da_cons (dv' 6) (da_one (dv' 1)))) ⟨one, other, pr, rfl, by rw [hJw one hone', hw other ho], by rw [hw other ho, hp], by rw [hp]; exact w4, rfl⟩) (dv' 5) (dv' 6)) (fun _ _ => trivial) (by omega))) ?_))), less_of⟩
          have := List.length_filter_le (fun other => decide (other ∉ J)) rows
          rw [List.length_map]
          omega
    refine ⟨.rt (D (sortD out)), ?_, .inl rfl⟩
    obtain ⟨J', hr⟩ := turns hrun (by simp) (fun x hx => hw x (List.mem_of_mem_take hx))
    have ol := hrun.len (by simp) (by rw [List.length_take]; omega)
    exact db_cons (ds_parT 2 3 (pv_n (dn_take (xs := rows) (n := 1) (dv' 0) dc_int rfl)) (pv_own dn_lst0)) (db_cons (ds_while hr PassesOwn.never) (db_one (ds_ret (dn_w (dn_sorted (xs := out) (dvo 3) (PySem.W.Sortable.tuples fun b => ⟨_, _, rfl⟩) (by omega))))))
end
end RC

/-! RdJ: the law's defs: bounds_right. -/
namespace RC
open PySem L2
open PySem.W (Datum DatumOrd Tup T3 Holds HoldAll minOf maxOf EachIs)
def pathM (Dr : List Row) : List Tie := Dr.zip (Dr.drop 1)
def starM (far : Row) (Dr : List Row) : List Tie := (Dr.filter fun x => decide (x ≠ far)).map fun x => ordM far x
def drawM (rows : List Row) (far : Row) (Dr : List Row) : List Tie := if (rows.length : Int) % 2 = 0 then starM far Dr else pathM Dr
def farM (sc : List Int) (Dr : List Row) : Row := Dr.getD (numM sc 99 % (Dr.length : Int)).toNat (Tup.mk [])
def d0M (Dr : List Row) : Row := Dr.getD 0 (Tup.mk [])
def wrong1 (Dr : List Row) (ties : List Tie) : List (List Tie) := if ties ≠ [] then [ties.drop 1, ties ++ ties.take 1] else [[(d0M Dr, d0M Dr)]]
def wrong2 (Dr : List Row) (ties : List Tie) : List Tie := if ties ≠ [] then ties.map fun t => (t.2, t.1) else [(d0M Dr, d0M Dr)]
def wrongM (Dr : List Row) (ties : List Tie) : List (List Tie) := wrong1 Dr ties ++ [wrong2 Dr ties]
def ringM (Dr : List Row) : List Tie := [(Dr.getD 0 (Tup.mk []), Dr.getD 1 (Tup.mk [])), (Dr.getD 0 (Tup.mk []), Dr.getD 2 (Tup.mk [])), (Dr.getD 1 (Tup.mk []), Dr.getD 2 (Tup.mk []))] ++ (Dr.drop 3).zip (Dr.drop 4)
def zerosM (c : Nat) : Row := Tup.mk (List.replicate c 0)
def dueM (Dr : List Row) (pr : Row) (whole : Int) (ties : List Tie) : Bool := decide (((ljM Dr ties).length : Int) = (Dr.length : Int)) && decide (worthM ties pr = whole)
section
variable {G : Gx}
abbrev sBR : Stmt := top 49
abbrev nBR : List Str := ["_law_script", "_law_columns", "_law_rows_here", "_law_different_here", "_law_prices_here", "_law_table", "_law_ties", "_law_found", "_law_whole", "_law_drawn", "_law_far", "_law_due", "_law_wrong", "_law_ring", "_law_given", "_law_kept", "_law_row", "_law_one", "_law_other", "_law_some"]
theorem scBR : FnScope nBR ["_law_script", "_law_columns", "_law_rows_here", "_law_different_here", "_law_prices_here", "_law_table", "_law_ties", "_law_found", "_law_whole"] (defScope sBR) := ⟨rfl, rfl, rfl, by decide +kernel, rfl, by decide +kernel, by decide +kernel⟩
structure BrOk (sc : List Int) (w : Nat) (rowsH rowsT Dr : List Row) (pr : Row) (ties found : List Tie) (whole : Int) : Prop where
  T : TabOk rowsT Dr w
  P : PrOk pr w
  few : rowsH.length ≤ 1000
  tl : ties.length ≤ 100
  tm : ∀ t, t ∈ ties → t.1 ∈ Dr ∧ t.2 ∈ Dr
  draw : showsM (drawM rowsH (farM sc Dr) Dr) Dr pr = dueM Dr pr whole (drawM rowsH (farM sc Dr) Dr)
  wrong : ∀ b, b ∈ wrongM Dr ties → showsM b Dr pr = false ∧ b ≠ found
  ring : 3 < Dr.length → showsM (ringM Dr) Dr (zerosM w) = false ∧ showsM (ringM Dr) Dr pr = false
def RBR (ds : List XD) (d : XD) : Prop := ∃ (sc : List Int) (w : Nat) (rowsH rowsT Dr : List Row) (pr : Row) (ties found : List Tie) (whole : Int), ds = [D sc, .dat (.int w), D rowsH, D Dr, D pr, .tab rowsT, D ties, .bnd (Ds found), .dat (.int whole)] ∧ BrOk sc w rowsH rowsT Dr pr ties found whole ∧ d = .dat (.bool true)
theorem path_len (Dr : List Row) : (pathM Dr).length ≤ Dr.length := by unfold pathM; rw [List.length_zip]; omega
theorem path_mem {Dr : List Row} {t : Tie} (h : t ∈ pathM Dr) : t.1 ∈ Dr ∧ t.2 ∈ Dr := by
  obtain ⟨t1, t2⟩ := t
  have := List.of_mem_zip h
  exact ⟨this.1, List.mem_of_mem_drop this.2⟩
theorem ordM_mem {L : List Row} {a b : Row} (ha : a ∈ L) (hb : b ∈ L) : (ordM a b).1 ∈ L ∧ (ordM a b).2 ∈ L := by
  unfold ordM
  constructor <;> (simp only []; split <;> assumption)
theorem star_mem {far : Row} {Dr : List Row} (hf : far ∈ Dr) {t : Tie} (h : t ∈ starM far Dr) : t.1 ∈ Dr ∧ t.2 ∈ Dr := by
  obtain ⟨x, hx, rfl⟩ := List.mem_map.mp h
  exact ordM_mem hf (List.mem_filter.mp hx).1
theorem star_len (far : Row) (Dr : List Row) : (starM far Dr).length ≤ Dr.length := by
  unfold starM
  rw [List.length_map]
  exact List.length_filter_le _ _
theorem getD_mem {α : Type} {l : List α} {i : Nat} {x : α} (h : i < l.length) : l.getD i x ∈ l := by
  rw [List.getD_eq_getElem?_getD, List.getElem?_eq_getElem h]
  exact List.getElem_mem h
theorem Ds_get {α : Type} [DecidableEq α] [Datum α] {xs : List α} {i : Nat} {x : α} (h : i < xs.length) : (Ds xs)[i]? = some (toD (xs.getD i x)) := by
  rw [List.getElem?_map, List.getD_eq_getElem?_getD, List.getElem?_eq_getElem h]
  rfl
theorem far_lt (sc : List Int) {Dr : List Row} (h : 0 < Dr.length) : (numM sc 99 % (Dr.length : Int)).toNat < Dr.length ∧ ((numM sc 99 % (Dr.length : Int)).toNat : Int) = numM sc 99 % (Dr.length : Int) := by
  have h1 := Int.emod_nonneg (numM sc 99) (show (Dr.length : Int) ≠ 0 by omega)
  have h2 := Int.emod_lt_of_pos (numM sc 99) (show (0 : Int) < Dr.length by omega)
  omega
theorem def_br (gl : Glob G) (F1 : Def G 1 "_law_number" RNumb) (F2 : Def G 1 "_law_joined" RLJ) (F3 : Def G 2 "_law_worth" RLW) (F4 : MkB G 1) (F5 : DefB G 5 "shows" RShows) (F6 : DefEq G 1 REq) {f : Addr} {fd : FuncData} (F : Fun G.K "_law_bounds_right" "_law_bounds_right" sBR f fd) (hm : G.mg "_law_bounds_right" = some (.ref f))
    (b : Binds G.K fd ["_law_script", "_law_columns", "_law_rows_here", "_law_different_here", "_law_prices_here", "_law_table", "_law_ties", "_law_found", "_law_whole"] []) : Def G 6 "_law_bounds_right" RBR := by
  refine def_ok gl F scBR hm b (fun ds d h => ?_) fun cdv A outer s H E on ds d hR => ?_
  · obtain ⟨_, _, _, _, _, _, _, _, _, rfl, _⟩ := h
    rfl
  · obtain ⟨sc, w, rowsH, rowsT, Dr, pr, ties, found, whole, rfl, K, rfl⟩ := hR
    have T := K.T
    have P := K.P
    have few := T.few7
    have w4 := T.w4
    have w1 := T.w1
    obtain ⟨d0, rest, hD⟩ := T.neD
    have hpos : 0 < Dr.length := by rw [hD]; simp
    obtain ⟨fl1, fl2⟩ := far_lt sc hpos
    have hfar : farM sc Dr ∈ Dr := getD_mem fl1
    have dmem : ∀ t, t ∈ drawM rowsH (farM sc Dr) Dr → t.1 ∈ Dr ∧ t.2 ∈ Dr := fun t ht => by
      unfold drawM at ht
      split at ht
      · exact star_mem hfar ht
      · exact path_mem ht
    have dlen : (drawM rowsH (farM sc Dr) Dr).length ≤ 7 := by
      unfold drawM
      split
      · exact Nat.le_trans (star_len _ _) few
      · exact Nat.le_trans (path_len _) few
    refine ⟨.rt (.dat (.bool true)), ?_, .inl rfl⟩
    -- drawn, far
    refine db_cons (ds_parT 9 10 (pv_n (dn_listZip (xs := Dr) (ys := Dr.drop 1) (dv' 3) (dn_w (dn_drop (xs := Dr) (n := 1) (dv' 3) dc_int rfl)) (by omega))) (pv_im (d := D (farM sc Dr)) (dw_ixL (i := (numM sc 99 % (Dr.length : Int)).toNat) (ys := Ds Dr) (dv' 3) (dw_mod (dw_int (dw_call F1 (da_cons (dv' 0) (da_one dc_int)) ⟨sc, 99, rfl, by decide, rfl⟩)) (dw_len (α := Row) (dv' 3)) (by omega)) fl2.symm (Ds_get fl1)) (imD (farM sc Dr)))) ?_
    -- the star
    refine db_cons (r1 := ⟨[some (.x (D sc)), some (.x (.dat (.int w))), some (.x (D rowsH)), some (.x (D Dr)), some (.x (D pr)), some (.x (.tab rowsT)), some (.x (D ties)), some (.x (.bnd (Ds found))), some (.x (.dat (.int whole))), some (.x (D (drawM rowsH (farM sc Dr) Dr))), some (.x (D (farM sc Dr))), none, none, none, none, none, none, none, none, none], true⟩) ?_ ?_
    · by_cases hc : (rowsH.length : Int) % 2 = 0
      · have e : drawM rowsH (farM sc Dr) Dr = starM (farM sc Dr) Dr := if_pos hc
        rw [e]
        refine ds_then (dt_eq (x := (rowsH.length : Int) % 2) (y := 0) (dw_mod (dw_len (α := Row) (dv' 2)) dc_int (by decide)) dc_int) (decide_eq_true hc) (db_one (ds_setLc 9 (t := .one 16) (s := .x (D (starM (farM sc Dr) Dr))) (own := [("_law_row", 16)]) Dr (fun x => D x) (fun x => decide (x ≠ farM sc Dr)) (fun x => toD (ordM (farM sc Dr) x)) ?_ (di_listD (dv 3)) (blkOk_by (N := nBR) (sc := defScope sBR) (by decide +kernel)) (by decide) (fun _ _ _ _ _ => dg_one scBR.nd 16)
          (fun _ _ _ _ _ x _ => pts_t (dt_ne (x := x) (y := farM sc Dr) (dv' 16) (dv' 10))) (fun _ _ _ _ _ x _ _ => dw_pair (dw_min2 (x := farM sc Dr) (y := x) (dv' 10) (dv' 16)) (dw_max2 (x := farM sc Dr) (y := x) (dv' 10) (dv' 16))) (fun _ _ => trivial) (fun _ _ _ => Imm.imm _) (by omega)))
        have e2 : (Dr.filter fun x => decide (x ≠ farM sc Dr)).map (fun x => toD (ordM (farM sc Dr) x)) = Ds (starM (farM sc Dr) Dr) := by
          unfold starM Ds
          rw [List.map_map]
          rfl
        rw [e2]
        exact .x
      · have e : drawM rowsH (farM sc Dr) Dr = pathM Dr := if_neg hc
        rw [e]
        exact ds_skip (dt_eq (x := (rowsH.length : Int) % 2) (y := 0) (dw_mod (dw_len (α := Row) (dv' 2)) dc_int (by decide)) dc_int) (decide_eq_false hc)
    -- due
    have hdue := K.draw
    have hdw : ∀ t, t ∈ drawM rowsH (farM sc Dr) Dr → t.1.items.length = w ∧ t.2.items.length = w := fun t ht => ⟨T.rowW (dmem t ht).1, T.rowW (dmem t ht).2⟩
    generalize drawM rowsH (farM sc Dr) Dr = drawn at dmem dlen hdue hdw
    refine db_cons (ds_set 11 (pv_im (d := .dat (.bool (dueM Dr pr whole drawn))) (dw_and (dw_call F2 (da_cons (dv' 3) (da_one (dv' 9))) ⟨Dr, drawn, rfl, by omega, by omega, rfl⟩) fun _ => dw_one (dw_eq (x := worthM drawn pr) (y := whole) (dw_call F3 (da_cons (dv' 9) (da_one (dv' 4))) ⟨drawn, pr, w, rfl, by omega, w4, P.len, hdw, rfl⟩) (dv' 8))) rfl)) ?_
    refine db_cons (ds_skip (dt_ne (x := showsM drawn Dr pr) (y := dueM Dr pr whole drawn) (dw_methB F5 (de_w (de_mkB F4 (dv' 9) (imsD drawn))) (da_cons (dv' 5) (da_one (dv' 4))) ⟨drawn, rowsT, Dr, w, pr, rfl, by omega, T, P, rfl⟩) (dv' 11)) (by rw [hdue]; simp)) ?_
    -- wrong ones
    have sw1 : (wrong1 Dr ties).length ≤ 2 := by unfold wrong1; split <;> simp
    refine db_cons (ds_set 12 (s := .ownB ((wrong1 Dr ties).map fun t => Ds t)) (pv_if (dt_ne (x := ties) (y := ([] : List Tie)) (dv' 6) (dn_w dn_lst0)) (fun hk => ?_) (fun hk => ?_))) ?_
    · have e : wrong1 Dr ties = [ties.drop 1, ties ++ ties.take 1] := if_pos (of_decide_eq_true hk)
      rw [e]
      have tk1 : (ties.take 1).length ≤ 1 := by rw [List.length_take]; omega
      exact pv_bnds (bs := [Ds (ties.drop 1), Ds (ties ++ ties.take 1)]) (dab_cons (de_mkB F4 (dn_w (dn_drop (xs := ties) (n := 1) (dv' 6) dc_int rfl)) (imsD _)) (dab_cons (de_mkB F4 (dn_w (dn_cat (xs := ties) (ys := ties.take 1) (dv' 6) (dn_w (dn_take (xs := ties) (n := 1) (dv' 6) dc_int rfl)) (by have := K.tl; omega))) (imsD _)) dab_nil)) (by simp)
    · have e : wrong1 Dr ties = [[(d0M Dr, d0M Dr)]] := if_neg (of_decide_eq_false hk)
      rw [e]
      exact pv_bnds (bs := [Ds [(d0M Dr, d0M Dr)]]) (dab_cons (de_mkB F4 (dn_w (dn_lst1 (x := (d0M Dr, d0M Dr)) (dw_pair (dw_ixL (i := 0) (ys := Ds Dr) (d := toD (d0M Dr)) (dv' 3) dc_int rfl (Ds_get hpos)) (dw_ixL (i := 0) (ys := Ds Dr) (d := toD (d0M Dr)) (dv' 3) dc_int rfl (Ds_get hpos))))) (imsD _)) dab_nil) (by simp)
    have ew : (wrong1 Dr ties).map (fun t => Ds t) ++ [Ds (wrong2 Dr ties)] = (wrongM Dr ties).map fun t => Ds t := by unfold wrongM; rw [List.map_append]; rfl
    refine db_cons (ds_appendB 12 (ts := Ds (wrong2 Dr ties)) (he := de_mkB F4 (dw_if (dt_ne (x := ties) (y := ([] : List Tie)) (dv' 6) (dn_w dn_lst0)) (fun hk => ?_) (fun hk => ?_)) (imsD _)) (hz := by rw [List.length_map]; omega)) ?_
    · have e : wrong2 Dr ties = ties.map fun t => (t.2, t.1) := if_pos (of_decide_eq_true hk)
      rw [e]
      exact dn_w (dn_lcM (t := .tup [17, 18]) (own := [("_law_one", 17), ("_law_other", 18)]) ties (fun x => D x) (fun t => (t.2, t.1)) (di_listD (dv 6)) (blkOk_by (N := nBR) (sc := defScope sBR) (by decide +kernel)) (by decide) (fun _ _ _ _ _ => dg_tup rfl (dg_cons scBR.nd 17 (dg_cons scBR.nd 18 dg_nil)))
        (fun _ _ _ _ _ t _ => dw_pair (dv' 18) (dv' 17)) (fun _ _ => rfl) (by have := K.tl; omega))
    · have e : wrong2 Dr ties = [(d0M Dr, d0M Dr)] := if_neg (of_decide_eq_false hk)
      rw [e]
      exact dn_w (dn_lst1 (x := (d0M Dr, d0M Dr)) (dw_pair (dw_ixL (i := 0) (ys := Ds Dr) (d := toD (d0M Dr)) (dv' 3) dc_int rfl (Ds_get hpos)) (dw_ixL (i := 0) (ys := Ds Dr) (d := toD (d0M Dr)) (dv' 3) dc_int rfl (Ds_get hpos))))
    rw [ew]
    refine db_freeze 12 (s := .ownB ((wrongM Dr ties).map fun t => Ds t)) (h := ?_)
    have wlen : (wrongM Dr ties).length ≤ 3 := by unfold wrongM; rw [List.length_append, List.length_singleton]; omega
    have wsz : ∀ t, t ∈ wrongM Dr ties → t.length ≤ 1000 := fun t ht => by
      have tl := K.tl
      unfold wrongM wrong1 wrong2 at ht
      rcases List.mem_append.mp ht with ht | ht
      · split at ht
        · rcases List.mem_cons.mp ht with rfl | ht
          · rw [List.length_drop]; omega
          · rw [List.mem_singleton.mp ht, List.length_append, List.length_take]; omega
        · rw [List.mem_singleton.mp ht]; simp
      · rw [List.mem_singleton.mp ht]
        split
        · rw [List.length_map]; omega
        · simp
    refine db_cons (ds_skip (PW.pt (dt_or (k := (((wrongM Dr ties).map fun t => showsM t Dr pr).any id)) (dt_val (dw_any (dn_w (dn_lcM (t := .one 19) (own := [("_law_some", 19)]) (wrongM Dr ties) (fun t => XD.bnd (Ds t)) (fun t => showsM t Dr pr) ?_ (blkOk_by (N := nBR) (sc := defScope sBR) (by decide +kernel)) (by decide) (fun _ _ _ _ _ => dg_one scBR.nd 19)
        (fun _ _ _ _ _ t ht => dw_methB F5 (dv' 19) (da_cons (dv' 5) (da_one (dv' 4))) ⟨t, rowsT, Dr, w, pr, rfl, wsz t ht, T, P, rfl⟩) (fun _ _ => trivial) (by omega))))) fun _ => dt_or1 (k := (((wrongM Dr ties).map fun t => decide (t = found)).any id)) (dt_val (dw_any (dn_w (dn_lcM (t := .one 19) (own := [("_law_some", 19)]) (wrongM Dr ties) (fun t => XD.bnd (Ds t)) (fun t => decide (t = found)) ?_ (blkOk_by (N := nBR) (sc := defScope sBR) (by decide +kernel)) (by decide) (fun _ _ _ _ _ => dg_one scBR.nd 19)
        (fun _ _ _ _ _ t ht => dw_eqO F6 (dv' 19) (dv' 7) ⟨t, found, rfl, rfl⟩) (fun _ _ => trivial) (by omega))))))) ?_) ?_
    · have eb : ((wrongM Dr ties).map fun t => Ds t).map XD.bnd = (wrongM Dr ties).map fun t => XD.bnd (Ds t) := List.map_map
      rw [← eb]
      exact di_bnds (dv 12)
    · have eb : ((wrongM Dr ties).map fun t => Ds t).map XD.bnd = (wrongM Dr ties).map fun t => XD.bnd (Ds t) := List.map_map
      rw [← eb]
      exact di_bnds (dv 12)
    · rw [Bool.or_eq_false_iff, List.any_map, List.any_map, List.any_eq_false, List.any_eq_false]
      refine ⟨fun t ht => ?_, fun t ht => ?_⟩
      · have := (K.wrong t ht).1
        simp [this]
      · have := (K.wrong t ht).2
        simp [this]
    -- the ring
    refine db_cons (r1 := ⟨[some (.x (D sc)), some (.x (.dat (.int w))), some (.x (D rowsH)), some (.x (D Dr)), some (.x (D pr)), some (.x (.tab rowsT)), some (.x (D ties)), some (.x (.bnd (Ds found))), some (.x (.dat (.int whole))), none, none, none, none, none, none, none, none, none, none, none], false⟩) ?_ ?_
    · by_cases h3 : 3 < Dr.length
      · obtain ⟨rg1, rg2⟩ := K.ring h3
        have gd : ∀ i, i < 3 → (Ds Dr)[i]? = some (toD (Dr.getD i (Tup.mk []))) := fun i hi => Ds_get (by omega)
        have rl : (ringM Dr).length ≤ 1000 := by
          unfold ringM
          rw [List.length_append, List.length_zip, List.length_drop, List.length_drop]
          simp
          omega
        have Pz : PrOk (zerosM w) w := ⟨by simp [zerosM], fun x hx => by
          have := (List.mem_replicate.mp hx).2
          omega⟩
        refine ds_then (dt_gtI (dw_len (α := Row) (dv' 3)) dc_int) (by simp; omega) ?_
        refine db_cons (ds_set 13 (pv_n (dn_lstD (ds := Ds [(Dr.getD 0 (Tup.mk []), Dr.getD 1 (Tup.mk [])), (Dr.getD 0 (Tup.mk []), Dr.getD 2 (Tup.mk [])), (Dr.getD 1 (Tup.mk []), Dr.getD 2 (Tup.mk []))])
          (da_cons (d := D (Dr.getD 0 (Tup.mk []), Dr.getD 1 (Tup.mk []))) (dw_pair (dw_ixL (i := 0) (ys := Ds Dr) (dv' 3) dc_int rfl (gd 0 (by decide))) (dw_ixL (i := 1) (ys := Ds Dr) (dv' 3) dc_int rfl (gd 1 (by decide)))) (da_cons (d := D (Dr.getD 0 (Tup.mk []), Dr.getD 2 (Tup.mk []))) (dw_pair (dw_ixL (i := 0) (ys := Ds Dr) (dv' 3) dc_int rfl (gd 0 (by decide))) (dw_ixL (i := 2) (ys := Ds Dr) (dv' 3) dc_int rfl (gd 2 (by decide)))) (da_one (d := D (Dr.getD 1 (Tup.mk []), Dr.getD 2 (Tup.mk []))) (dw_pair (dw_ixL (i := 1) (ys := Ds Dr) (dv' 3) dc_int rfl (gd 1 (by decide))) (dw_ixL (i := 2) (ys := Ds Dr) (dv' 3) dc_int rfl (gd 2 (by decide))))))) (imsD _) (by simp)))) ?_
        refine db_cons (ds_set 13 (pv_n (dn_cat (xs := [(Dr.getD 0 (Tup.mk []), Dr.getD 1 (Tup.mk [])), (Dr.getD 0 (Tup.mk []), Dr.getD 2 (Tup.mk [])), (Dr.getD 1 (Tup.mk []), Dr.getD 2 (Tup.mk []))]) (ys := (Dr.drop 3).zip (Dr.drop 4)) (dv' 13) (dn_w (dn_listZip (xs := Dr.drop 3) (ys := Dr.drop 4) (dn_w (dn_drop (xs := Dr) (n := 3) (dv' 3) dc_int rfl)) (dn_w (dn_drop (xs := Dr) (n := 4) (dv' 3) dc_int rfl)) (by rw [List.length_drop]; omega))) (by rw [List.length_zip, List.length_drop, List.length_drop]; simp; omega)))) ?_
        refine db_less (db_one (ds_skip (PW.pt (dt_or (k := showsM (ringM Dr) Dr (zerosM w)) (dt_val (dw_methB F5 (de_w (de_mkB F4 (dv' 13) (imsD (ringM Dr)))) (da_cons (dv' 5) (da_one (d := D (zerosM w)) (dw_rep (x := (0 : Int)) (n := (w : Int)) (dw_tup1 (x := (0 : Int)) dc_int) (dv' 1) (by omega) (by omega)))) ⟨ringM Dr, rowsT, Dr, w, zerosM w, rfl, rl, T, Pz, rfl⟩)) fun _ => dt_or1 (k := showsM (ringM Dr) Dr pr) (dt_val (dw_methB F5 (de_w (de_mkB F4 (dv' 13) (imsD (ringM Dr)))) (da_cons (dv' 5) (da_one (dv' 4))) ⟨ringM Dr, rowsT, Dr, w, pr, rfl, rl, T, P, rfl⟩)))) (by rw [rg1, rg2]; rfl))) less_of
      · exact ds_less (ds_skip (dt_gtI (dw_len (α := Row) (dv' 3)) dc_int) (by simp; omega)) less_of
    -- a copy is kept
    exact db_cons (ds_set 14 (pv_own (dn_list (dv' 6) (imsD ties)))) (db_cons (ds_set 15 (pv_x (de_mkB F4 (dvo 14) (imsD ties)))) (db_cons (ds_clear 14) (db_one (ds_ret (d := .dat (.bool true)) (by
      have e : true = (decide (ties = ties) && decide (ties = ties)) := by simp
      rw [e]
      exact dw_and (dw_eqO F6 (dv' 15) (de_w (de_mkB F4 (dv' 6) (imsD ties))) ⟨ties, ties, rfl, rfl⟩) fun _ => dw_one (dw_eq (x := ties) (y := ties) (dw_ties (dv' 15)) (dv' 6)))))))
end
end RC

/-! RdK: sorted of a tuple. -/
namespace RCS
open PySem PySem.Calls PyProof.Rows PySem.W
open PySem PySem.Builtin
section
variable {prog : Program} {w : World} {A : Around} {E : Value → Shared → Prop} {s : Shared} {β : Type} {vs : List Value} {bs : List β} {enc : β → PyData} {R : Value → β → Prop}
/-- the heap that holds a new list of the items, where the sort begins -/
def copied (h : Heap) (vs : List Value) : Heap := h.push (seqObj "list" vs.toArray 0)
theorem copied_at (h : Heap) (vs : List Value) : (copied h vs).get? h.objs.size = some (seqObj "list" vs.toArray 0) := Heap.get?_push_size _ rfl
theorem copied_old {h : Heap} {vs : List Value} {b : Addr} {o : Obj} (e : h.get? b = some o) : (copied h vs).get? b = some o := Heap.get?_push_of_some _ e
theorem end_old {h : Heap} {vs : List Value} {out : Array Value} {b : Addr} {o : Obj} (e : h.get? b = some o) : (sortedHeap (copied h vs) h.objs.size vs out).get? b = some o :=
  (sortedHeap_old (Nat.ne_of_lt (Heap.lt_size e)) (Heap.lt_size (copied_old (vs := vs) e))).trans (copied_old e)
theorem end_at (h : Heap) (vs : List Value) (out : Array Value) : ∃ e, (sortedHeap (copied h vs) h.objs.size vs out).get? h.objs.size = some (seqObj "list" out e) := sortedHeap_at (copied_at h vs)
/-- sorted(t), t a tuple of alike data -/
theorem tup_sorted {l : Addr} {Q : Value → Shared → Prop} (hl : s.heap.IsTuple l vs.toArray) (e : EachIs R vs bs) (er : EachIs (fun v b => ∃ as, Reads s.heap v (enc b) as) vs bs) (hal : AllAlike (bs.map enc)) (hk : Sortable (bs.map enc)) (hL : bs.length ≤ sizeLine)
    (hu : ∀ b, b ∈ bs → A.units + 2 + (enc b).depth < cLine)
    (h : ∀ h1 out, (∀ b o, s.heap.get? b = some o → h1.get? b = some o) → EachIs R out (bs.mergeSort (dataLe false enc)) → Q (.ref h1.objs.size) { s with heap := sortedHeap (copied h1 vs) h1.objs.size vs out.toArray }) :
    wpAny (model prog w) A (call (.builtin "sorted") [.ref l]) Q E s := by
  have few : vs.length ≤ sizeLine := e.length ▸ hL
  obtain ⟨o, ho, hc, n, hd⟩ := hl
  refine call_function_entry_kw kind_sorted plain_sorted entry_sorted (args_sorted1 _) ?_
  unfold Builtin.«sorted»
  refine wpAny_bind (m := checkCount "sorted" 1 1 _) (wpAny_pure (wpAny_bind (wpAny_collect_seq l (.inr rfl) ho hc hd (fun h1 k => ?_) (by simpa using few))))
  rw [show vs.toArray.toList = vs by simp]
  have er1 : EachIs (fun v d => ∃ as, Reads (sortingHeap (copied h1 vs) h1.objs.size vs) v d as) vs (bs.map enc) :=
    each_map enc (er.mono fun _ _ ⟨as, r⟩ => ⟨as, PyProof.Rows.Reads.keeps (fun _ _ q => sortingHeap_old (Nat.ne_of_lt (Heap.lt_size (k _ _ q))) (copied_old (k _ _ q))) r⟩)
  have S := SortsAt.data (prog := prog) (w := w) (A := A.in1.in1) (s := { s with heap := sortingHeap (copied h1 vs) h1.objs.size vs }) er1 hal hk (bound_map hu)
  have fin := h h1 _ k (sortVals_data (h' := sortingHeap (copied h1 vs) h1.objs.size vs) false e (er.mono fun _ _ ⟨as, r⟩ => ⟨as, PyProof.Rows.Reads.keeps (fun _ _ q => sortingHeap_old (Nat.ne_of_lt (Heap.lt_size (k _ _ q))) (copied_old (k _ _ q))) r⟩) hal)
  refine wpAny_bind (wpAny_newList ?_ few)
  show wpAny _ _ _ _ _ { s with heap := copied h1 vs }
  refine wpAny_bind (wpAny_holding (wpAny_call_entry_kw slot_list_sort ⟨_, copied_at h1 vs, rfl⟩ entry_list_sort ?body (args_list_sort _)))
  case body =>
    refine wpAny_mono (list_sort_vals (P := fun f s' => f = .done (.ret .none) ∧ Q (.ref h1.objs.size) s') (s := { s with heap := copied h1 vs }) (copied_at h1 vs) S few ⟨rfl, fin⟩) (fun f s' hf => ?_) fun _ _ q => q
    obtain ⟨rfl, hq⟩ := hf
    exact ⟨_, rfl, wpAny_pure ⟨_, rfl, hq⟩⟩
end
end RCS
namespace RC
open PySem L2
open PySem.W (Datum DatumOrd Tup T3 Holds HoldAll minOf maxOf EachIs)
section
variable {K : PySem.W.Frag} (α : Type) [DecidableEq α]
def rSortTA [DatumOrd α] : List V → Hp → VK → Prop := fun vs H Q => ∃ (a : V) (xs : List α), vs = [a] ∧ Dp K H a (.tuple (Ds xs)) ∧ PySem.W.Sortable (Ds xs) ∧ xs.length ≤ 100000 ∧
  ∀ p ws, H p = none → DpAll K H ws (Ds (sortD xs)) → Q (.ref p) (upd H p (.lst ws))
end
section
variable {X : Cx} {α : Type} [DecidableEq α] [DatumOrd α]
theorem cr_sortTA (hu : X.A.units + 2 + Datum.depth α < cLine) : CallR X (.builtin "sorted") (rSortTA (K := X.K) α) := by
  intro pins s σ H vs us Q I r h
  obtain ⟨a, xs, rfl, ha, hk, hz, q⟩ := h
  obtain ⟨u, rfl, ru⟩ := vals1 r
  obtain ⟨l, ws, rfl, hs, hd⟩ := dp_tup ha
  cases ru
  obtain ⟨its, rv, p, _⟩ := I.tuple hs
  obtain ⟨ps, e1, e2, hps⟩ := dps_zip hd
  subst e1 e2
  have ep := each_pairs rv
  have er : EachIs (fun v (b : V × α) => ∃ as, Reads s.heap v (toD b.2) as) its ps := each_and ep fun u b hb hr => holds_of (x := b.2) I (hps b hb) hr
  have em : ps.map (fun b => toD b.2) = Ds (ps.map (·.2)) := (List.map_map (f := fun b : V × α => b.2) (g := Datum.toD) (l := ps)).symm
  have hal : PySem.W.AllAlike (ps.map fun b => toD b.2) := by
    rw [em]
    exact PySem.W.AllAlike.of fun b b' => DatumOrd.alike b b'
  rw [List.length_map] at hz
  have pt : s.heap.IsTuple l its.toArray := by
    obtain ⟨o, h1, h2, n, h3⟩ := p
    exact ⟨o, h1, h2, n, h3⟩
  refine RCS.tup_sorted (enc := fun b : V × α => toD b.2) pt ep er hal (by rw [em]; exact hk) (size100 hz) (fun b hb => ?_) fun h1 out kp ho => ?_
  · have h1 := Datum.depth_le b.2
    have h2 : (toD b.2).depth ≤ Datum.depth α := h1
    omega
  obtain ⟨ep', he'⟩ := RCS.end_at h1 its out.toArray
  have hv := pairs_vals ho
  have I1 : L2.Inv X pins σ H { s with heap := h1 } := I.kept (t' := s.toks) kp
  have hlen : ((ps.mergeSort (PySem.W.dataLe false fun b : V × α => toD b.2)).map (·.1)).length ≤ sizeLine := by rw [List.length_map, List.length_mergeSort]; exact size100 hz
  refine ⟨.ref _, upd H h1.objs.size (.lst ((ps.mergeSort (PySem.W.dataLe false fun b : V × α => toD b.2)).map (·.1))),
    I1.laid (t' := s.toks) (fun _ _ => RCS.end_old) (Nat.le_refl _) ⟨hlen, out, ep', hv, he'⟩, rfl, q _ _ (I1.hok.fresh (Nat.le_refl _)) ?_⟩
  have es : (ps.mergeSort (PySem.W.dataLe false fun b : V × α => toD b.2)).map (·.2) = sortD (ps.map (·.2)) := by
    refine PySem.W.sort_maps (fun b : V × α => b.2) fun a _ b _ => ?_
    have e3 : PySem.W.dataLt (toD b.2) (toD a.2) = DatumOrd.lt b.2 a.2 := DatumOrd.lt_eq b.2 a.2
    rw [← e3]
    rfl
  rw [← es]
  have e4 : Ds ((ps.mergeSort (PySem.W.dataLe false fun b : V × α => toD b.2)).map (·.2)) = (ps.mergeSort (PySem.W.dataLe false fun b : V × α => toD b.2)).map (fun b => toD b.2) := List.map_map (f := fun b : V × α => b.2) (g := Datum.toD)
  rw [e4]
  exact dps_map _ _ fun b hb => hps b ((List.mergeSort_perm ps _).mem_iff.mp hb)
end
section
variable {G : Gx} {X : Cx} {lv : Nat} {r : DEnv} {a : Expr} {p pos : Pos} {α : Type} [DecidableEq α] [DatumOrd α]
theorem dn_sortedT [o : On G X lv] [Imm α] {xs : List α} (ha : DW G X a r (D (Tup.mk xs))) (hk : PySem.W.Sortable (Ds xs)) (hz : xs.length ≤ 100000) (hd : Datum.depth α ≤ 60 := by decide) (hg : Gl X "sorted" := by rfl) (he : starEach [a] X.env = [(false, eval a X.env)] := by rfl)
    (hpl : (backTo pos (starEach [] X.env)).any (·.1) = false := by rfl) : DN G X (.Call (.Name "sorted" p) [a] [] pos) r (Ds (sortD xs)) := by
  have hu := on_units2 (G := G) (X := X) hd
  obtain ⟨⟨CT, CB, rfl⟩, hc, _, _, gl⟩ := o
  refine dn_callB (cr_sortTA (α := α) hu) ?_ (imsD _) hg gl.sorted PyProof.Rows.boot_sorted (da_one ha he) (he := he) (hpl := hpl)
  intro H vs h Q k
  obtain ⟨v, rfl, h1⟩ := rep1 h
  exact ⟨v, xs, rfl, h1, hk, hz, fun p ws hp hw => k p ws _ hp (Gr.new hp) upd_same (dps_gr (Gr.new hp) _ ws hw)⟩
end
end RC

/-! RdL: the law's def. -/
namespace RC
open PySem L2
open PySem.W (Datum DatumOrd Tup T3 Holds HoldAll minOf maxOf EachIs)
def wL (sc : List Int) : Nat := (1 + numM sc 0 % 4).toNat
def vL (sc : List Int) : Nat := (2 + numM sc 90 % 4).toNat
def rowsL (sc : List Int) : List Row := rowsM sc 1 10 (wL sc) (vL sc)
def DrL (sc : List Int) : List Row := (diffM (rowsL sc)).take 7
def prL (sc : List Int) : Row := pricesM sc 91 (wL sc)
def tabL (sc : List Int) : List Row := (rowsL sc).filter fun r => decide (r ∈ DrL sc)
theorem wL_bd (sc : List Int) : 1 ≤ wL sc ∧ wL sc ≤ 4 ∧ (1 + numM sc 0 % 4 = ((wL sc : Nat) : Int)) := by
  have h1 := Int.emod_nonneg (numM sc 0) (show (4 : Int) ≠ 0 by decide)
  have h2 := Int.emod_lt_of_pos (numM sc 0) (show (0 : Int) < 4 by decide)
  unfold wL
  omega
theorem vL_bd (sc : List Int) : 2 ≤ vL sc ∧ vL sc ≤ 5 ∧ (2 + numM sc 90 % 4 = ((vL sc : Nat) : Int)) := by
  have h1 := Int.emod_nonneg (numM sc 90) (show (4 : Int) ≠ 0 by decide)
  have h2 := Int.emod_lt_of_pos (numM sc 90) (show (0 : Int) < 4 by decide)
  unfold vL
  omega
structure LawOk (sc : List Int) (out : List Tie) (ord : List Row) : Prop where
  wide : ∀ x, x ∈ rowsL sc → x.items.length = wL sc
  rok : RowsOk (tabL sc)
  T : TabOk (tabL sc) (DrL sc) (wL sc)
  P : PrOk (prL sc) (wL sc)
  run : GRun (DrL sc) (prL sc) ((DrL sc).take 1) [] out
  omem : ∀ t, t ∈ out → t.1 ∈ DrL sc ∧ t.2 ∈ DrL sc
  whole : worthM (treeM (DrL sc) (prL sc)) (prL sc) = worthM (sortD out) (prL sc)
  shows : showsM (treeM (DrL sc) (prL sc)) (DrL sc) (prL sc) = true
  shows2 : showsM (sortD out).reverse (DrL sc) (prL sc) = true
  sorted : sortD (treeM (DrL sc) (prL sc)) = treeM (DrL sc) (prL sc)
  orun : ORun (treeM (DrL sc) (prL sc)) [] ((DrL sc).take 1) ord
  olen : ord.length ≤ 1000
  osort : sortD ord = DrL sc
  omem2 : ∀ x, x ∈ ord → x ∈ DrL sc
  round : worthM (pathM ord) (prL sc) ≤ 2 * worthM (sortD out) (prL sc)
  low : worthM (sortD out) (prL sc) ≤ changesM (DrL sc) (prL sc)
  high : changesM (DrL sc) (prL sc) ≤ worthM (pathM ord) (prL sc)
  br : BrOk sc (wL sc) (rowsL sc) (tabL sc) (DrL sc) (prL sc) (sortD out) (treeM (DrL sc) (prL sc)) (worthM (sortD out) (prL sc))
section
variable {G : Gx}
abbrev sLaw : Stmt := top 50
abbrev nLaw : List Str := ["_law_script", "_law_columns", "_law_rows_here", "_law_different_here", "_law_prices_here", "_law_table", "_law_ties", "_law_found", "_law_whole", "_law_order", "_law_around", "_law_row", "_law_one", "_law_other"]
theorem scLaw : FnScope nLaw ["_law_script"] (defScope sLaw) := ⟨rfl, rfl, rfl, by decide +kernel, rfl, by decide +kernel, by decide +kernel⟩
def RLaw (ds : List XD) (d : XD) : Prop := ∃ (sc : List Int) (out : List Tie) (ord : List Row), ds = [D sc] ∧ LawOk sc out ord ∧ d = .dat (.bool true)
theorem ok_law (gl : Glob G) (F1 : Def G 1 "_law_number" RNumb) (F2 : Def G 2 "_law_rows" RLRows) (F3 : Def G 1 "_law_different" RLDiff) (F4 : Def G 2 "_law_prices" RLPr) (F5 : MkT G 3 RowsOk) (F6 : Def G 2 "_law_grown" RGr) (F7 : Def G 5 "least_tree" RTree)
    (F8 : Def G 2 "_law_worth" RLW) (F9 : Def G 6 "least_ties" RLTies) (F10 : MkB G 1) (F11 : DefB G 5 "shows" RShows) (F12 : Def G 6 "round_order" ROrd) (F13 : Def G 1 "_law_apart" RApart) (F14 : Def G 5 "least_changes" RLCh) (F15 : Def G 6 "_law_bounds_right" RBR)
    {f : Addr} {fd : FuncData} (F : Fun G.K "law" "law" sLaw f fd) : FnOk G.P G.w G.K G.mg G.base CX0 7 f fd ["_law_script"] (spR G RLaw) := by
  refine fn_ok gl F scLaw (fun ds d h => ?_) fun cdv A outer s H E on ds d hR => ?_
  · obtain ⟨_, _, _, rfl, _⟩ := h
    rfl
  · obtain ⟨sc, out, ord, rfl, K, rfl⟩ := hR
    have T := K.T
    have P := K.P
    have few := T.few7
    obtain ⟨w1, w4, we⟩ := wL_bd sc
    obtain ⟨v1, v4, ve⟩ := vL_bd sc
    have rl : (rowsL sc).length ≤ 10 := by
      have h1 := many_bd sc 1 10 (by decide)
      have h2 := rows_len sc 1 (wL sc) (vL sc) (manyM sc 1 10)
      unfold rowsL rowsM
      rw [h2]
      omega
    have ol : out.length ≤ 7 := Nat.le_trans (K.run.len (by simp) (by rw [List.length_take]; omega)) few
    have smem : ∀ t, t ∈ sortD out → t.1 ∈ DrL sc ∧ t.2 ∈ DrL sc := fun t ht => K.omem t (sortD_mem.mp ht)
    have sl : (sortD out).length ≤ 7 := by rw [sortD_len]; exact ol
    have tl := treeM_len (pr := prL sc) few
    have tmem : ∀ t, t ∈ treeM (DrL sc) (prL sc) → t.1.items.length = wL sc ∧ t.2.items.length = wL sc := fun t ht => ⟨T.rowW (treeM_mem ht).1, T.rowW (treeM_mem ht).2.1⟩
    have swid : ∀ t, t ∈ sortD out → t.1.items.length = wL sc ∧ t.2.items.length = wL sc := fun t ht => ⟨T.rowW (smem t ht).1, T.rowW (smem t ht).2⟩
    refine ⟨.rt (.dat (.bool true)), ?_, .inl rfl⟩
    refine db_cons (ds_set 1 (pv_im (d := .dat (.int (wL sc))) (int_nat (dw_add dc_int (dw_mod (dw_int (dw_call F1 (da_cons (dv' 0) (da_one dc_int)) ⟨sc, 0, rfl, by decide, rfl⟩)) dc_int (by decide))) we) rfl)) ?_
    refine db_cons (ds_set 2 (s := .x (D (rowsL sc))) (pv_pu (dw_call F2 (da_cons (dv' 0) (da_cons dc_int (da_cons dc_int (da_cons (dv' 1) (da_one (int_nat (dw_add dc_int (dw_mod (dw_int (dw_call F1 (da_cons (dv' 0) (da_one dc_int)) ⟨sc, 90, rfl, by decide, rfl⟩)) dc_int (by decide))) ve)))))) ⟨sc, 1, 10, wL sc, vL sc, rfl, by decide, by decide, by decide, w4, by omega, by omega, rfl⟩))) ?_
    refine db_cons (ds_parT 3 4 (s := .x (D (DrL sc))) (t := .x (D (prL sc))) (pv_n (dn_take (xs := diffM (rowsL sc)) (n := 7) (dw_call F3 (da_one (dv' 2)) ⟨rowsL sc, rfl, by omega, fun x hx => by rw [K.wide x hx]; exact w1, rfl⟩) dc_int rfl)) (pv_pu (dw_call F4 (da_cons (dv' 0) (da_cons dc_int (da_one (dv' 1)))) ⟨sc, 91, wL sc, rfl, by decide, w4, rfl⟩))) ?_
    have et : tabL sc = ((rowsL sc).filter fun x => decide (x ∈ DrL sc)).map fun x => x := (List.map_id' _).symm
    refine db_cons (ds_set 5 (s := .x (.tab (tabL sc))) (pv_pu (dw_mkT F5 ?_ K.rok))) ?_
    · rw [et]
      exact dn_w (dn_lcT (t := .one 11) (own := [("_law_row", 11)]) (rowsL sc) (fun x => D x) (fun x => decide (x ∈ DrL sc)) (fun x => x) (di_listD (dv 2)) (blkOk_by (N := nLaw) (sc := defScope sLaw) (by decide +kernel)) (by decide) (fun _ _ _ _ _ => dg_one scLaw.nd 11)
        (fun _ _ _ _ _ x _ => pts_t (dt_inL (x := x) (ys := DrL sc) (dv' 11) (dv' 3))) (fun _ _ _ _ _ x _ _ => dv' 11) (fun _ _ => trivial) (by omega))
    refine db_cons (ds_par 6 7 (pv_pu (dw_call F6 (da_cons (dv' 3) (da_one (dv' 4))) ⟨DrL sc, prL sc, wL sc, out, rfl, few, w4, P.len, fun x hx => T.rowW hx, K.run, rfl⟩)) (pv_pu (dw_call F7 (da_cons (dv' 5) (da_one (dv' 4))) ⟨tabL sc, DrL sc, wL sc, prL sc, rfl, T, P, rfl⟩))) ?_
    refine db_cons (ds_set 8 (pv_im (dw_call F8 (da_cons (dv' 6) (da_one (dv' 4))) ⟨sortD out, prL sc, wL sc, rfl, by omega, w4, P.len, swid, rfl⟩) rfl)) ?_
    refine db_cons (ds_skip (PW.pt (dt_or (k := decide (worthM (treeM (DrL sc) (prL sc)) (prL sc) ≠ worthM (sortD out) (prL sc))) (dt_ne (x := worthM (treeM (DrL sc) (prL sc)) (prL sc)) (y := worthM (sortD out) (prL sc)) (dw_call F9 (da_cons (dv' 5) (da_one (dv' 4))) ⟨tabL sc, DrL sc, wL sc, prL sc, rfl, T, P, rfl⟩) (dv' 8)) fun _ => dt_or (k := decide (worthM (treeM (DrL sc) (prL sc)) (prL sc) ≠ worthM (sortD out) (prL sc))) (dt_ne (x := worthM (treeM (DrL sc) (prL sc)) (prL sc)) (y := worthM (sortD out) (prL sc)) (dw_call F8 (da_cons (dw_ties (dv' 7)) (da_one (dv' 4))) ⟨treeM (DrL sc) (prL sc), prL sc, wL sc, rfl, by omega, w4, P.len, tmem, rfl⟩) (dv' 8)) fun _ =>
      dt_or1 (dt_not (dt_val (dw_methB F11 (dv' 7) (da_cons (dv' 5) (da_one (dv' 4))) ⟨treeM (DrL sc) (prL sc), tabL sc, DrL sc, wL sc, prL sc, rfl, by omega, T, P, rfl⟩))))) (by rw [K.whole, K.shows]; simp)) ?_
    refine db_cons (ds_skip (PW.pt (dt_or (k := !showsM (sortD out).reverse (DrL sc) (prL sc)) (dt_not (dt_val (dw_methB F11 (de_w (de_mkB F10 (dn_w (dn_rev (xs := sortD out) (dv' 6))) (imsD _))) (da_cons (dv' 5) (da_one (dv' 4))) ⟨(sortD out).reverse, tabL sc, DrL sc, wL sc, prL sc, rfl, by rw [List.length_reverse]; omega, T, P, rfl⟩))) fun _ =>
      dt_or1 (dt_ne (x := sortD (treeM (DrL sc) (prL sc))) (y := treeM (DrL sc) (prL sc)) (dn_w (dn_sorted (xs := treeM (DrL sc) (prL sc)) (dw_ties (dv' 7)) (PySem.W.Sortable.tuples fun b => ⟨_, _, rfl⟩) (by omega))) (dw_ties (dv' 7))))) (by rw [K.shows2, K.sorted]; simp)) ?_
    refine db_cons (ds_set 9 (pv_pu (dw_call F12 (da_cons (dv' 5) (da_one (dv' 4))) ⟨tabL sc, DrL sc, wL sc, prL sc, ord, rfl, T, P, K.orun, K.olen, rfl⟩))) ?_
    have om := K.olen
    refine db_cons (ds_set 10 (s := .x (.dat (.int (worthM (pathM ord) (prL sc))))) (pv_im (dw_sum (dn_w (dn_lcM (t := .tup [12, 13]) (own := [("_law_one", 12), ("_law_other", 13)]) (ord.zip (ord.drop 1)) (fun x => D x) (fun t => apartM t.1 t.2 (prL sc)) (di_zipTD (de_pu (dv' 9) rfl) (de_pu (dw_dropT (xs := ord) (n := 1) (dv' 9) dc_int rfl) rfl)) (blkOk_by (N := nLaw) (sc := defScope sLaw) (by decide +kernel)) (by decide) (fun _ _ _ _ _ => dg_tup rfl (dg_cons scLaw.nd 12 (dg_cons scLaw.nd 13 dg_nil)))
      (fun _ _ _ _ _ t ht => ?_) (fun _ _ => rfl) (by rw [List.length_zip]; omega)))) rfl)) ?_
    · have hm := List.of_mem_zip (show (t.1, t.2) ∈ ord.zip (ord.drop 1) from ht)
      have h1 := T.rowW (K.omem2 _ hm.1)
      have h2 := T.rowW (K.omem2 _ (List.mem_of_mem_drop hm.2))
      exact dw_call F13 (da_cons (dv' 12) (da_cons (dv' 13) (da_one (dv' 4)))) ⟨t.1, t.2, prL sc, rfl, by rw [h1, h2], by rw [h2, P.len], by rw [P.len]; exact w4, rfl⟩
    refine db_cons (ds_skip (PW.pt (dt_or (k := decide (sortD ord ≠ DrL sc)) (dt_ne (x := sortD ord) (y := DrL sc) (dn_w (dn_sortedT (xs := ord) (dv' 9) ?_ (by omega))) (dv' 3)) fun _ => dt_or (k := decide (2 * worthM (sortD out) (prL sc) < worthM (pathM ord) (prL sc))) (dt_gtI (dv' 10) (dw_mul dc_int (dv' 8) (.inl (by decide)))) fun _ => dt_or1 (dt_not (dt_chain (i := worthM (sortD out) (prL sc)) (j := changesM (DrL sc) (prL sc)) (k := worthM (pathM ord) (prL sc)) (dv' 8) (dw_call F14 (da_cons (dv' 5) (da_one (dv' 4))) ⟨tabL sc, DrL sc, wL sc, prL sc, rfl, T, P, rfl⟩) (dv' 10))))) ?_) ?_
    · refine .inl fun d hd => ?_
      obtain ⟨x, hx, rfl⟩ := List.mem_map.mp hd
      have hw := T.rowW (K.omem2 x hx)
      obtain ⟨its⟩ := x
      cases its with
      | nil => simp at hw; omega
      | cons i l => exact ⟨.int i, _, rfl⟩
    · have h1 := K.round
      have h2 := K.low
      have h3 := K.high
      have h4 : ¬ 2 * worthM (sortD out) (prL sc) < worthM (pathM ord) (prL sc) := by omega
      rw [K.osort, decide_eq_true h2, decide_eq_true h3, decide_eq_false h4]
      simp
    exact db_one (ds_ret (dw_call F15 (da_cons (dv' 0) (da_cons (dv' 1) (da_cons (dv' 2) (da_cons (dv' 3) (da_cons (dv' 4) (da_cons (dv' 5) (da_cons (dv' 6) (da_cons (dv' 7) (da_one (dv' 8)))))))))) ⟨sc, wL sc, rowsL sc, tabL sc, DrL sc, prL sc, sortD out, treeM (DrL sc) (prL sc), worthM (sortD out) (prL sc), rfl, K.br, rfl⟩))
end
end RC

/-! RdM: the defs joined; what the top has written. -/
namespace RC
open PySem L2
open PySem.W (Datum DatumOrd Tup T3 Holds HoldAll minOf maxOf EachIs)

theorem join_law {G : Gx} (gl : Glob G) (nm : Nums G)
  {f_num f_isRow f_widthOf f_initT f_width f_diff f_ckT f_ckP f_apart f_with f_lots f_pairs f_least f_rest f_lCost f_initB f_eqB f_few f_rows f_costs f_isTie f_join f_way f_fair f_shows f_lCh f_tree f_lTies f_ord f_numb f_lRows f_lApart f_lDiff f_lPr f_gr f_lJ f_lW f_br f_law pWidth : Addr} {d_num d_isRow d_widthOf d_initT d_width d_diff d_ckT d_ckP d_apart d_with d_lots d_pairs d_least d_rest d_lCost d_initB d_eqB d_few d_rows d_costs d_isTie d_join d_way d_fair d_shows d_lCh d_tree d_lTies d_ord d_numb d_lRows d_lApart d_lDiff d_lPr d_gr d_lJ d_lW d_br d_law : FuncData}
  (F_num : Fun G.K "is_number" "is_number" sNum f_num d_num) (m_num : G.mg "is_number" = some (.ref f_num)) (b_num : Binds G.K d_num ["thing", "least", "most"] [])
  (F_isRow : Fun G.K "is_row" "is_row" sIsRow f_isRow d_isRow) (m_isRow : G.mg "is_row" = some (.ref f_isRow)) (b_isRow : Binds G.K d_isRow ["thing", "many"] [])
  (F_widthOf : Fun G.K "width_of" "width_of" sWidthOf f_widthOf d_widthOf) (m_widthOf : G.mg "width_of" = some (.ref f_widthOf)) (b_widthOf : Binds G.K d_widthOf ["thing"] [])
  (F_initT : Fun G.K "__init__" "Table.__init__" sInitT f_initT d_initT) (m_initT : Mk G.K G.CT f_initT) (b_initT : Binds G.K d_initT ["self", "rows"] [])
  (F_width : Fun G.K "width" "Table.width" sWidth f_width d_width) (m_width : PropOf G.K G.CT "width" pWidth f_width) (b_width : Binds G.K d_width ["self"] [])
  (F_diff : Fun G.K "different" "Table.different" sDiff f_diff d_diff) (m_diff : Meth G.K G.CT "different" f_diff) (b_diff : Binds G.K d_diff ["self"] [])
  (F_ckT : Fun G.K "check_table" "check_table" sCkT f_ckT d_ckT) (m_ckT : G.mg "check_table" = some (.ref f_ckT)) (b_ckT : Binds G.K d_ckT ["table"] [])
  (F_ckP : Fun G.K "check_prices" "check_prices" sCkP f_ckP d_ckP) (m_ckP : G.mg "check_prices" = some (.ref f_ckP)) (b_ckP : Binds G.K d_ckP ["table", "prices"] [])
  (F_apart : Fun G.K "apart" "apart" sApart f_apart d_apart) (m_apart : G.mg "apart" = some (.ref f_apart)) (b_apart : Binds G.K d_apart ["one", "other", "prices"] [])
  (F_with : Fun G.K "without" "without" sWithout f_with d_with) (m_with : G.mg "without" = some (.ref f_with)) (b_with : Binds G.K d_with ["lot", "thing"] [])
  (F_lots : Fun G.K "lots_of" "lots_of" sLots f_lots d_lots) (m_lots : G.mg "lots_of" = some (.ref f_lots)) (b_lots : Binds G.K d_lots ["things"] [])
  (F_pairs : Fun G.K "pairs_of" "pairs_of" sPairs f_pairs d_pairs) (m_pairs : G.mg "pairs_of" = some (.ref f_pairs)) (b_pairs : Binds G.K d_pairs ["things"] [])
  (F_least : Fun G.K "least_of" "least_of" sLeast f_least d_least) (m_least : G.mg "least_of" = some (.ref f_least)) (b_least : Binds G.K d_least ["lot", "last", "costs", "rest"] [])
  (F_rest : Fun G.K "rest_of" "rest_of" sRest f_rest d_rest) (m_rest : G.mg "rest_of" = some (.ref f_rest)) (b_rest : Binds G.K d_rest ["things", "costs"] [])
  (F_lCost : Fun G.K "least_cost" "least_cost" sLCost f_lCost d_lCost) (m_lCost : G.mg "least_cost" = some (.ref f_lCost)) (b_lCost : Binds G.K d_lCost ["things", "rest"] [])
  (F_initB : Fun G.K "__init__" "Bound.__init__" sInitB f_initB d_initB) (m_initB : Mk G.K G.CB f_initB) (b_initB : Binds G.K d_initB ["self", "ties"] [])
  (F_eqB : Fun G.K "__eq__" "Bound.__eq__" sEqB f_eqB d_eqB) (m_eqB : PySem.W.findIn G.K (.ref G.CB) "__eq__" = some (some (.ref f_eqB))) (n_eqB : PySem.W.isFn G.K (.ref f_eqB) = true) (b_eqB : Binds G.K d_eqB ["self", "other"] [])
  (F_few : Fun G.K "check_few" "check_few" sFew f_few d_few) (m_few : G.mg "check_few" = some (.ref f_few)) (b_few : Binds G.K d_few ["table", "prices"] [])
  (F_rows : Fun G.K "rows_of" "rows_of" sRows f_rows d_rows) (m_rows : G.mg "rows_of" = some (.ref f_rows)) (b_rows : Binds G.K d_rows ["table"] [])
  (F_costs : Fun G.K "costs_of" "costs_of" sCosts f_costs d_costs) (m_costs : G.mg "costs_of" = some (.ref f_costs)) (b_costs : Binds G.K d_costs ["table", "prices"] [])
  (F_isTie : Fun G.K "is_tie" "is_tie" sIsTie f_isTie d_isTie) (m_isTie : G.mg "is_tie" = some (.ref f_isTie)) (b_isTie : Binds G.K d_isTie ["rows", "tie"] [])
  (F_join : Fun G.K "joined_by" "joined_by" sJoin f_join d_join) (m_join : G.mg "joined_by" = some (.ref f_join)) (b_join : Binds G.K d_join ["ties", "row"] [])
  (F_way : Fun G.K "way_between" "way_between" sWay f_way d_way) (m_way : G.mg "way_between" = some (.ref f_way)) (b_way : Binds G.K d_way ["ties", "one", "other"] [])
  (F_fair : Fun G.K "is_fair" "Bound.is_fair" sFair f_fair d_fair) (m_fair : Meth G.K G.CB "is_fair" f_fair) (b_fair : Binds G.K d_fair ["self", "one", "other", "costs"] [])
  (F_shows : Fun G.K "shows" "Bound.shows" sShows f_shows d_shows) (m_shows : Meth G.K G.CB "shows" f_shows) (b_shows : Binds G.K d_shows ["self", "table", "prices"] [])
  (F_lCh : Fun G.K "least_changes" "least_changes" sLCh f_lCh d_lCh) (m_lCh : G.mg "least_changes" = some (.ref f_lCh)) (b_lCh : Binds G.K d_lCh ["table", "prices"] [])
  (F_tree : Fun G.K "least_tree" "least_tree" sTree f_tree d_tree) (m_tree : G.mg "least_tree" = some (.ref f_tree)) (b_tree : Binds G.K d_tree ["table", "prices"] [])
  (F_lTies : Fun G.K "least_ties" "least_ties" sLTies f_lTies d_lTies) (m_lTies : G.mg "least_ties" = some (.ref f_lTies)) (b_lTies : Binds G.K d_lTies ["table", "prices"] [])
  (F_ord : Fun G.K "round_order" "round_order" sOrd f_ord d_ord) (m_ord : G.mg "round_order" = some (.ref f_ord)) (b_ord : Binds G.K d_ord ["table", "prices"] [])
  (F_numb : Fun G.K "_law_number" "_law_number" sNumb f_numb d_numb) (m_numb : G.mg "_law_number" = some (.ref f_numb)) (b_numb : Binds G.K d_numb ["_law_script", "_law_at"] [])
  (F_lRows : Fun G.K "_law_rows" "_law_rows" sLRows f_lRows d_lRows) (m_lRows : G.mg "_law_rows" = some (.ref f_lRows)) (b_lRows : Binds G.K d_lRows ["_law_script", "_law_at", "_law_most", "_law_columns", "_law_values"] [])
  (F_lApart : Fun G.K "_law_apart" "_law_apart" sLApart f_lApart d_lApart) (m_lApart : G.mg "_law_apart" = some (.ref f_lApart)) (b_lApart : Binds G.K d_lApart ["_law_one", "_law_other", "_law_prices_here"] [])
  (F_lDiff : Fun G.K "_law_different" "_law_different" sLDiff f_lDiff d_lDiff) (m_lDiff : G.mg "_law_different" = some (.ref f_lDiff)) (b_lDiff : Binds G.K d_lDiff ["_law_rows_here"] [])
  (F_lPr : Fun G.K "_law_prices" "_law_prices" sLPr f_lPr d_lPr) (m_lPr : G.mg "_law_prices" = some (.ref f_lPr)) (b_lPr : Binds G.K d_lPr ["_law_script", "_law_at", "_law_columns"] [])
  (F_gr : Fun G.K "_law_grown" "_law_grown" sGr f_gr d_gr) (m_gr : G.mg "_law_grown" = some (.ref f_gr)) (b_gr : Binds G.K d_gr ["_law_rows_here", "_law_prices_here"] [])
  (F_lJ : Fun G.K "_law_joined" "_law_joined" sLJ f_lJ d_lJ) (m_lJ : G.mg "_law_joined" = some (.ref f_lJ)) (b_lJ : Binds G.K d_lJ ["_law_rows_here", "_law_ties"] [])
  (F_lW : Fun G.K "_law_worth" "_law_worth" sLW f_lW d_lW) (m_lW : G.mg "_law_worth" = some (.ref f_lW)) (b_lW : Binds G.K d_lW ["_law_ties", "_law_prices_here"] [])
  (F_br : Fun G.K "_law_bounds_right" "_law_bounds_right" sBR f_br d_br) (m_br : G.mg "_law_bounds_right" = some (.ref f_br)) (b_br : Binds G.K d_br ["_law_script", "_law_columns", "_law_rows_here", "_law_different_here", "_law_prices_here", "_law_table", "_law_ties", "_law_found", "_law_whole"] [])
  (F_law : Fun G.K "law" "law" sLaw f_law d_law)
  : FnOk G.P G.w G.K G.mg G.base CX0 7 f_law d_law ["_law_script"] (spR G RLaw) := by
  have D_num := def_num gl  F_num m_num b_num
  have D_isRow := def_isRow gl nm D_num F_isRow m_isRow b_isRow
  have D_widthOf := def_widthOf gl nm F_widthOf m_widthOf b_widthOf
  have D_initT := mk_table gl nm D_widthOf D_isRow F_initT m_initT b_initT
  have D_width := prop_width gl  F_width m_width b_width
  have D_diff := def_diff gl  F_diff m_diff b_diff
  have D_ckT := def_ckT gl  F_ckT m_ckT b_ckT
  have D_ckP := def_ckP gl nm D_num D_width F_ckP m_ckP b_ckP
  have D_apart := def_apart gl  F_apart m_apart b_apart
  have D_with := def_with gl  F_with m_with b_with
  have D_lots := def_lots gl  F_lots m_lots b_lots
  have D_pairs := def_pairs gl D_lots F_pairs m_pairs b_pairs
  have D_least := def_least gl D_with F_least m_least b_least
  have D_rest := def_rest gl D_pairs D_least F_rest m_rest b_rest
  have D_lCost := def_lCost gl D_with F_lCost m_lCost b_lCost
  have D_initB := mk_bound gl  F_initB m_initB b_initB
  have D_eqB := eq_bound gl  F_eqB m_eqB n_eqB b_eqB
  have D_few := def_few gl nm D_ckT D_ckP D_diff F_few m_few b_few
  have D_rows := def_rows gl D_diff F_rows m_rows b_rows
  have D_costs := def_costs gl D_rows D_apart F_costs m_costs b_costs
  have D_isTie := def_isTie gl  F_isTie m_isTie b_isTie
  have D_join := def_join gl  F_join m_join b_join
  have D_way := def_way gl D_join F_way m_way b_way
  have D_fair := def_fair gl D_way F_fair m_fair b_fair
  have D_shows := def_shows gl D_few D_rows D_costs D_isTie D_join D_fair F_shows m_shows b_shows
  have D_lCh := def_lCh gl D_few D_rows D_costs D_rest D_lCost F_lCh m_lCh b_lCh
  have D_tree := def_tree gl D_few D_rows D_costs D_join D_initB F_tree m_tree b_tree
  have D_lTies := def_lTies gl D_tree D_apart F_lTies m_lTies b_lTies
  have D_ord := def_ord gl D_tree D_rows F_ord m_ord b_ord
  have D_numb := def_numb gl  F_numb m_numb b_numb
  have D_lRows := def_lRows gl D_numb F_lRows m_lRows b_lRows
  have D_lApart := def_lApart gl  F_lApart m_lApart b_lApart
  have D_lDiff := def_lDiff gl  F_lDiff m_lDiff b_lDiff
  have D_lPr := def_lPr gl D_numb F_lPr m_lPr b_lPr
  have D_gr := def_gr gl D_lApart F_gr m_gr b_gr
  have D_lJ := def_lJ gl  F_lJ m_lJ b_lJ
  have D_lW := def_lW gl D_lApart F_lW m_lW b_lW
  have D_br := def_br gl D_numb D_lJ D_lW D_initB D_shows D_eqB F_br m_br b_br
  exact ok_law gl D_numb D_lRows D_lDiff D_lPr D_initT D_gr D_tree D_lW D_lTies D_initB D_shows D_ord D_lApart D_lCh D_br F_law

theorem rep_ints {G : Gx} {H : Hp} {a : Addr} {ns : List Int} (h : SqL G.K H a (ns.map V.int)) : Rep G H (.ref a) (D ns) :=
  Dp.lst h (show DpAll G.K H (ns.map V.int) (ns.map PyData.int) from dps_map _ _ fun i _ => .int i)
def spLaw (K : PySem.W.Frag) : Sp := fun vs H Q _ => ∃ (a : Addr) (ns : List Int), vs = [.ref a] ∧ SqL K H a (ns.map V.int) ∧ ns.length ≤ 63 ∧ ∀ H', Q (.bl true) H'
def Plain : Prop := ∀ sc : List Int, sc.length ≤ 63 → ∃ out ord, LawOk sc out ord
theorem spLaw_imp {G : Gx} (pl : Plain) : ∀ vs H Q E, spLaw G.K vs H Q E → spR G RLaw vs H Q E := by
  rintro vs H Q E ⟨a, ns, rfl, hS, hl, k⟩
  obtain ⟨out, ord, h⟩ := pl ns hl
  refine ⟨[D ns], .dat (.bool true), .cons (rep_ints hS) .nil, ⟨ns, out, ord, rfl, h, rfl⟩, fun v H' g r => ?_⟩
  rw [dp_bl r]
  exact k H'

theorem all_mk (pl : Plain) {l : PySem.W.OpenLaw} {w : World} {K : PySem.W.Frag} {h : Heap} {mg : Str → Option Value} {fa CT CB pWidth f_num f_isRow f_widthOf f_initT f_width f_diff f_ckT f_ckP f_apart f_with f_lots f_pairs f_least f_rest f_lCost f_initB f_eqB f_few f_rows f_costs f_isTie f_join f_way f_fair f_shows f_lCh f_tree f_lTies f_ord f_numb f_lRows f_lApart f_lDiff f_lPr f_gr f_lJ f_lW f_br f_law : Addr} (X : K.In h) (G : h.Ns mainGlobals mg) (hfa : mg "law" = some (.ref fa))
    {od_num an_num od_isRow an_isRow od_widthOf an_widthOf od_initT an_initT od_width an_width od_diff an_diff od_ckT an_ckT od_ckP an_ckP od_apart an_apart od_with an_with od_lots an_lots od_pairs an_pairs od_least an_least od_rest an_rest od_lCost an_lCost od_initB an_initB od_eqB an_eqB od_few an_few od_rows an_rows od_costs an_costs od_isTie an_isTie od_join an_join od_way an_way od_fair an_fair od_shows an_shows od_lCh an_lCh od_tree an_tree od_lTies an_lTies od_ord an_ord od_numb an_numb od_lRows an_lRows od_lApart an_lApart od_lDiff an_lDiff od_lPr an_lPr od_gr an_gr od_lJ an_lJ od_lW an_lW od_br an_br od_law an_law : Option Addr} {sl_num sl_isRow sl_widthOf sl_initT sl_width sl_diff sl_ckT sl_ckP sl_apart sl_with sl_lots sl_pairs sl_least sl_rest sl_lCost sl_initB sl_eqB sl_few sl_rows sl_costs sl_isTie sl_join sl_way sl_fair sl_shows sl_lCh sl_tree sl_lTies sl_ord sl_numb sl_lRows sl_lApart sl_lDiff sl_lPr sl_gr sl_lJ sl_lW sl_br sl_law : Array (Option Value)} {oc_num kV_num dc_num pm_num cd_num ct_num oc_isRow kV_isRow dc_isRow pm_isRow cd_isRow ct_isRow oc_widthOf kV_widthOf dc_widthOf pm_widthOf cd_widthOf ct_widthOf oc_initT kV_initT dc_initT pm_initT cd_initT ct_initT oc_width kV_width dc_width pm_width cd_width ct_width oc_diff kV_diff dc_diff pm_diff cd_diff ct_diff oc_ckT kV_ckT dc_ckT pm_ckT cd_ckT ct_ckT oc_ckP kV_ckP dc_ckP pm_ckP cd_ckP ct_ckP oc_apart kV_apart dc_apart pm_apart cd_apart ct_apart oc_with kV_with dc_with pm_with cd_with ct_with oc_lots kV_lots dc_lots pm_lots cd_lots ct_lots oc_pairs kV_pairs dc_pairs pm_pairs cd_pairs ct_pairs oc_least kV_least dc_least pm_least cd_least ct_least oc_rest kV_rest dc_rest pm_rest cd_rest ct_rest oc_lCost kV_lCost dc_lCost pm_lCost cd_lCost ct_lCost oc_initB kV_initB dc_initB pm_initB cd_initB ct_initB oc_eqB kV_eqB dc_eqB pm_eqB cd_eqB ct_eqB oc_few kV_few dc_few pm_few cd_few ct_few oc_rows kV_rows dc_rows pm_rows cd_rows ct_rows oc_costs kV_costs dc_costs pm_costs cd_costs ct_costs oc_isTie kV_isTie dc_isTie pm_isTie cd_isTie ct_isTie oc_join kV_join dc_join pm_join cd_join ct_join oc_way kV_way dc_way pm_way cd_way ct_way oc_fair kV_fair dc_fair pm_fair cd_fair ct_fair oc_shows kV_shows dc_shows pm_shows cd_shows ct_shows oc_lCh kV_lCh dc_lCh pm_lCh cd_lCh ct_lCh oc_tree kV_tree dc_tree pm_tree cd_tree ct_tree oc_lTies kV_lTies dc_lTies pm_lTies cd_lTies ct_lTies oc_ord kV_ord dc_ord pm_ord cd_ord ct_ord oc_numb kV_numb dc_numb pm_numb cd_numb ct_numb oc_lRows kV_lRows dc_lRows pm_lRows cd_lRows ct_lRows oc_lApart kV_lApart dc_lApart pm_lApart cd_lApart ct_lApart oc_lDiff kV_lDiff dc_lDiff pm_lDiff cd_lDiff ct_lDiff oc_lPr kV_lPr dc_lPr pm_lPr cd_lPr ct_lPr oc_gr kV_gr dc_gr pm_gr cd_gr ct_gr oc_lJ kV_lJ dc_lJ pm_lJ cd_lJ ct_lJ oc_lW kV_lW dc_lW pm_lW cd_lW ct_lW oc_br kV_br dc_br pm_br cd_br ct_br oc_law kV_law dc_law pm_law cd_law ct_law : Value} {restW : List Value} {tk_rows tk_cols tk_val tk_price tk_diff : Tok}
    (aT : PySem.W.nsIn K mainGlobals "Table" = some (some (.ref CT)))
    (aB : PySem.W.nsIn K mainGlobals "Bound" = some (some (.ref CB)))
    (a_num : PySem.W.nsIn K mainGlobals "is_number" = some (some (.ref f_num)))
    (l_num : K.lookup f_num = some ⟨oc_num, od_num, .func (PySem.W.fnOf "is_number" "is_number" (defArgs sNum) (defBody sNum) (defScope sNum) .none kV_num dc_num pm_num an_num cd_num ct_num), sl_num⟩)
    (c_num : PySem.W.codeIn K cd_num "is_number" = true)
    (k_num : PySem.W.keepIn K (.ref f_num) = true)
    (a_isRow : PySem.W.nsIn K mainGlobals "is_row" = some (some (.ref f_isRow)))
    (l_isRow : K.lookup f_isRow = some ⟨oc_isRow, od_isRow, .func (PySem.W.fnOf "is_row" "is_row" (defArgs sIsRow) (defBody sIsRow) (defScope sIsRow) .none kV_isRow dc_isRow pm_isRow an_isRow cd_isRow ct_isRow), sl_isRow⟩)
    (c_isRow : PySem.W.codeIn K cd_isRow "is_row" = true)
    (k_isRow : PySem.W.keepIn K (.ref f_isRow) = true)
    (a_widthOf : PySem.W.nsIn K mainGlobals "width_of" = some (some (.ref f_widthOf)))
    (l_widthOf : K.lookup f_widthOf = some ⟨oc_widthOf, od_widthOf, .func (PySem.W.fnOf "width_of" "width_of" (defArgs sWidthOf) (defBody sWidthOf) (defScope sWidthOf) .none kV_widthOf dc_widthOf pm_widthOf an_widthOf cd_widthOf ct_widthOf), sl_widthOf⟩)
    (c_widthOf : PySem.W.codeIn K cd_widthOf "width_of" = true)
    (k_widthOf : PySem.W.keepIn K (.ref f_widthOf) = true)
    (a_initT : PySem.W.findIn K (.ref CT) "__init__" = some (some (.ref f_initT)))
    (i_initT : PySem.W.isFn K (.ref f_initT) = true)
    (l_initT : K.lookup f_initT = some ⟨oc_initT, od_initT, .func (PySem.W.fnOf "__init__" "Table.__init__" (defArgs sInitT) (defBody sInitT) (defScope sInitT) .none kV_initT dc_initT pm_initT an_initT cd_initT ct_initT), sl_initT⟩)
    (c_initT : PySem.W.codeIn K cd_initT "Table.__init__" = true)
    (k_initT : PySem.W.keepIn K (.ref f_initT) = true)
    (a_width : PySem.W.findIn K (.ref CT) "width" = some (some (.ref pWidth)))
    (g_width : PySem.W.specialIn K (.ref pWidth) "__get__" = some (some (.builtin "property.__get__")))
    (t_width : PySem.W.takesIn K (.ref pWidth) = some true)
    (r_width : PySem.W.recIn K pWidth "property" = some (.ref f_width :: restW))
    (l_width : K.lookup f_width = some ⟨oc_width, od_width, .func (PySem.W.fnOf "width" "Table.width" (defArgs sWidth) (defBody sWidth) (defScope sWidth) .none kV_width dc_width pm_width an_width cd_width ct_width), sl_width⟩)
    (c_width : PySem.W.codeIn K cd_width "Table.width" = true)
    (k_width : PySem.W.keepIn K (.ref f_width) = true)
    (a_diff : PySem.W.findIn K (.ref CT) "different" = some (some (.ref f_diff)))
    (i_diff : PySem.W.isFn K (.ref f_diff) = true)
    (l_diff : K.lookup f_diff = some ⟨oc_diff, od_diff, .func (PySem.W.fnOf "different" "Table.different" (defArgs sDiff) (defBody sDiff) (defScope sDiff) .none kV_diff dc_diff pm_diff an_diff cd_diff ct_diff), sl_diff⟩)
    (c_diff : PySem.W.codeIn K cd_diff "Table.different" = true)
    (k_diff : PySem.W.keepIn K (.ref f_diff) = true)
    (a_ckT : PySem.W.nsIn K mainGlobals "check_table" = some (some (.ref f_ckT)))
    (l_ckT : K.lookup f_ckT = some ⟨oc_ckT, od_ckT, .func (PySem.W.fnOf "check_table" "check_table" (defArgs sCkT) (defBody sCkT) (defScope sCkT) .none kV_ckT dc_ckT pm_ckT an_ckT cd_ckT ct_ckT), sl_ckT⟩)
    (c_ckT : PySem.W.codeIn K cd_ckT "check_table" = true)
    (k_ckT : PySem.W.keepIn K (.ref f_ckT) = true)
    (a_ckP : PySem.W.nsIn K mainGlobals "check_prices" = some (some (.ref f_ckP)))
    (l_ckP : K.lookup f_ckP = some ⟨oc_ckP, od_ckP, .func (PySem.W.fnOf "check_prices" "check_prices" (defArgs sCkP) (defBody sCkP) (defScope sCkP) .none kV_ckP dc_ckP pm_ckP an_ckP cd_ckP ct_ckP), sl_ckP⟩)
    (c_ckP : PySem.W.codeIn K cd_ckP "check_prices" = true)
    (k_ckP : PySem.W.keepIn K (.ref f_ckP) = true)
    (a_apart : PySem.W.nsIn K mainGlobals "apart" = some (some (.ref f_apart)))
    (l_apart : K.lookup f_apart = some ⟨oc_apart, od_apart, .func (PySem.W.fnOf "apart" "apart" (defArgs sApart) (defBody sApart) (defScope sApart) .none kV_apart dc_apart pm_apart an_apart cd_apart ct_apart), sl_apart⟩)
    (c_apart : PySem.W.codeIn K cd_apart "apart" = true)
    (k_apart : PySem.W.keepIn K (.ref f_apart) = true)
    (a_with : PySem.W.nsIn K mainGlobals "without" = some (some (.ref f_with)))
    (l_with : K.lookup f_with = some ⟨oc_with, od_with, .func (PySem.W.fnOf "without" "without" (defArgs sWithout) (defBody sWithout) (defScope sWithout) .none kV_with dc_with pm_with an_with cd_with ct_with), sl_with⟩)
    (c_with : PySem.W.codeIn K cd_with "without" = true)
    (k_with : PySem.W.keepIn K (.ref f_with) = true)
    (a_lots : PySem.W.nsIn K mainGlobals "lots_of" = some (some (.ref f_lots)))
    (l_lots : K.lookup f_lots = some ⟨oc_lots, od_lots, .func (PySem.W.fnOf "lots_of" "lots_of" (defArgs sLots) (defBody sLots) (defScope sLots) .none kV_lots dc_lots pm_lots an_lots cd_lots ct_lots), sl_lots⟩)
    (c_lots : PySem.W.codeIn K cd_lots "lots_of" = true)
    (k_lots : PySem.W.keepIn K (.ref f_lots) = true)
    (a_pairs : PySem.W.nsIn K mainGlobals "pairs_of" = some (some (.ref f_pairs)))
    (l_pairs : K.lookup f_pairs = some ⟨oc_pairs, od_pairs, .func (PySem.W.fnOf "pairs_of" "pairs_of" (defArgs sPairs) (defBody sPairs) (defScope sPairs) .none kV_pairs dc_pairs pm_pairs an_pairs cd_pairs ct_pairs), sl_pairs⟩)
    (c_pairs : PySem.W.codeIn K cd_pairs "pairs_of" = true)
    (k_pairs : PySem.W.keepIn K (.ref f_pairs) = true)
    (a_least : PySem.W.nsIn K mainGlobals "least_of" = some (some (.ref f_least)))
    (l_least : K.lookup f_least = some ⟨oc_least, od_least, .func (PySem.W.fnOf "least_of" "least_of" (defArgs sLeast) (defBody sLeast) (defScope sLeast) .none kV_least dc_least pm_least an_least cd_least ct_least), sl_least⟩)
    (c_least : PySem.W.codeIn K cd_least "least_of" = true)
    (k_least : PySem.W.keepIn K (.ref f_least) = true)
    (a_rest : PySem.W.nsIn K mainGlobals "rest_of" = some (some (.ref f_rest)))
    (l_rest : K.lookup f_rest = some ⟨oc_rest, od_rest, .func (PySem.W.fnOf "rest_of" "rest_of" (defArgs sRest) (defBody sRest) (defScope sRest) .none kV_rest dc_rest pm_rest an_rest cd_rest ct_rest), sl_rest⟩)
    (c_rest : PySem.W.codeIn K cd_rest "rest_of" = true)
    (k_rest : PySem.W.keepIn K (.ref f_rest) = true)
    (a_lCost : PySem.W.nsIn K mainGlobals "least_cost" = some (some (.ref f_lCost)))
    (l_lCost : K.lookup f_lCost = some ⟨oc_lCost, od_lCost, .func (PySem.W.fnOf "least_cost" "least_cost" (defArgs sLCost) (defBody sLCost) (defScope sLCost) .none kV_lCost dc_lCost pm_lCost an_lCost cd_lCost ct_lCost), sl_lCost⟩)
    (c_lCost : PySem.W.codeIn K cd_lCost "least_cost" = true)
    (k_lCost : PySem.W.keepIn K (.ref f_lCost) = true)
    (a_initB : PySem.W.findIn K (.ref CB) "__init__" = some (some (.ref f_initB)))
    (i_initB : PySem.W.isFn K (.ref f_initB) = true)
    (l_initB : K.lookup f_initB = some ⟨oc_initB, od_initB, .func (PySem.W.fnOf "__init__" "Bound.__init__" (defArgs sInitB) (defBody sInitB) (defScope sInitB) .none kV_initB dc_initB pm_initB an_initB cd_initB ct_initB), sl_initB⟩)
    (c_initB : PySem.W.codeIn K cd_initB "Bound.__init__" = true)
    (k_initB : PySem.W.keepIn K (.ref f_initB) = true)
    (a_eqB : PySem.W.findIn K (.ref CB) "__eq__" = some (some (.ref f_eqB)))
    (i_eqB : PySem.W.isFn K (.ref f_eqB) = true)
    (l_eqB : K.lookup f_eqB = some ⟨oc_eqB, od_eqB, .func (PySem.W.fnOf "__eq__" "Bound.__eq__" (defArgs sEqB) (defBody sEqB) (defScope sEqB) .none kV_eqB dc_eqB pm_eqB an_eqB cd_eqB ct_eqB), sl_eqB⟩)
    (c_eqB : PySem.W.codeIn K cd_eqB "Bound.__eq__" = true)
    (k_eqB : PySem.W.keepIn K (.ref f_eqB) = true)
    (a_few : PySem.W.nsIn K mainGlobals "check_few" = some (some (.ref f_few)))
    (l_few : K.lookup f_few = some ⟨oc_few, od_few, .func (PySem.W.fnOf "check_few" "check_few" (defArgs sFew) (defBody sFew) (defScope sFew) .none kV_few dc_few pm_few an_few cd_few ct_few), sl_few⟩)
    (c_few : PySem.W.codeIn K cd_few "check_few" = true)
    (k_few : PySem.W.keepIn K (.ref f_few) = true)
    (a_rows : PySem.W.nsIn K mainGlobals "rows_of" = some (some (.ref f_rows)))
    (l_rows : K.lookup f_rows = some ⟨oc_rows, od_rows, .func (PySem.W.fnOf "rows_of" "rows_of" (defArgs sRows) (defBody sRows) (defScope sRows) .none kV_rows dc_rows pm_rows an_rows cd_rows ct_rows), sl_rows⟩)
    (c_rows : PySem.W.codeIn K cd_rows "rows_of" = true)
    (k_rows : PySem.W.keepIn K (.ref f_rows) = true)
    (a_costs : PySem.W.nsIn K mainGlobals "costs_of" = some (some (.ref f_costs)))
    (l_costs : K.lookup f_costs = some ⟨oc_costs, od_costs, .func (PySem.W.fnOf "costs_of" "costs_of" (defArgs sCosts) (defBody sCosts) (defScope sCosts) .none kV_costs dc_costs pm_costs an_costs cd_costs ct_costs), sl_costs⟩)
    (c_costs : PySem.W.codeIn K cd_costs "costs_of" = true)
    (k_costs : PySem.W.keepIn K (.ref f_costs) = true)
    (a_isTie : PySem.W.nsIn K mainGlobals "is_tie" = some (some (.ref f_isTie)))
    (l_isTie : K.lookup f_isTie = some ⟨oc_isTie, od_isTie, .func (PySem.W.fnOf "is_tie" "is_tie" (defArgs sIsTie) (defBody sIsTie) (defScope sIsTie) .none kV_isTie dc_isTie pm_isTie an_isTie cd_isTie ct_isTie), sl_isTie⟩)
    (c_isTie : PySem.W.codeIn K cd_isTie "is_tie" = true)
    (k_isTie : PySem.W.keepIn K (.ref f_isTie) = true)
    (a_join : PySem.W.nsIn K mainGlobals "joined_by" = some (some (.ref f_join)))
    (l_join : K.lookup f_join = some ⟨oc_join, od_join, .func (PySem.W.fnOf "joined_by" "joined_by" (defArgs sJoin) (defBody sJoin) (defScope sJoin) .none kV_join dc_join pm_join an_join cd_join ct_join), sl_join⟩)
    (c_join : PySem.W.codeIn K cd_join "joined_by" = true)
    (k_join : PySem.W.keepIn K (.ref f_join) = true)
    (a_way : PySem.W.nsIn K mainGlobals "way_between" = some (some (.ref f_way)))
    (l_way : K.lookup f_way = some ⟨oc_way, od_way, .func (PySem.W.fnOf "way_between" "way_between" (defArgs sWay) (defBody sWay) (defScope sWay) .none kV_way dc_way pm_way an_way cd_way ct_way), sl_way⟩)
    (c_way : PySem.W.codeIn K cd_way "way_between" = true)
    (k_way : PySem.W.keepIn K (.ref f_way) = true)
    (a_fair : PySem.W.findIn K (.ref CB) "is_fair" = some (some (.ref f_fair)))
    (i_fair : PySem.W.isFn K (.ref f_fair) = true)
    (l_fair : K.lookup f_fair = some ⟨oc_fair, od_fair, .func (PySem.W.fnOf "is_fair" "Bound.is_fair" (defArgs sFair) (defBody sFair) (defScope sFair) .none kV_fair dc_fair pm_fair an_fair cd_fair ct_fair), sl_fair⟩)
    (c_fair : PySem.W.codeIn K cd_fair "Bound.is_fair" = true)
    (k_fair : PySem.W.keepIn K (.ref f_fair) = true)
    (a_shows : PySem.W.findIn K (.ref CB) "shows" = some (some (.ref f_shows)))
    (i_shows : PySem.W.isFn K (.ref f_shows) = true)
    (l_shows : K.lookup f_shows = some ⟨oc_shows, od_shows, .func (PySem.W.fnOf "shows" "Bound.shows" (defArgs sShows) (defBody sShows) (defScope sShows) .none kV_shows dc_shows pm_shows an_shows cd_shows ct_shows), sl_shows⟩)
    (c_shows : PySem.W.codeIn K cd_shows "Bound.shows" = true)
    (k_shows : PySem.W.keepIn K (.ref f_shows) = true)
    (a_lCh : PySem.W.nsIn K mainGlobals "least_changes" = some (some (.ref f_lCh)))
    (l_lCh : K.lookup f_lCh = some ⟨oc_lCh, od_lCh, .func (PySem.W.fnOf "least_changes" "least_changes" (defArgs sLCh) (defBody sLCh) (defScope sLCh) .none kV_lCh dc_lCh pm_lCh an_lCh cd_lCh ct_lCh), sl_lCh⟩)
    (c_lCh : PySem.W.codeIn K cd_lCh "least_changes" = true)
    (k_lCh : PySem.W.keepIn K (.ref f_lCh) = true)
    (a_tree : PySem.W.nsIn K mainGlobals "least_tree" = some (some (.ref f_tree)))
    (l_tree : K.lookup f_tree = some ⟨oc_tree, od_tree, .func (PySem.W.fnOf "least_tree" "least_tree" (defArgs sTree) (defBody sTree) (defScope sTree) .none kV_tree dc_tree pm_tree an_tree cd_tree ct_tree), sl_tree⟩)
    (c_tree : PySem.W.codeIn K cd_tree "least_tree" = true)
    (k_tree : PySem.W.keepIn K (.ref f_tree) = true)
    (a_lTies : PySem.W.nsIn K mainGlobals "least_ties" = some (some (.ref f_lTies)))
    (l_lTies : K.lookup f_lTies = some ⟨oc_lTies, od_lTies, .func (PySem.W.fnOf "least_ties" "least_ties" (defArgs sLTies) (defBody sLTies) (defScope sLTies) .none kV_lTies dc_lTies pm_lTies an_lTies cd_lTies ct_lTies), sl_lTies⟩)
    (c_lTies : PySem.W.codeIn K cd_lTies "least_ties" = true)
    (k_lTies : PySem.W.keepIn K (.ref f_lTies) = true)
    (a_ord : PySem.W.nsIn K mainGlobals "round_order" = some (some (.ref f_ord)))
    (l_ord : K.lookup f_ord = some ⟨oc_ord, od_ord, .func (PySem.W.fnOf "round_order" "round_order" (defArgs sOrd) (defBody sOrd) (defScope sOrd) .none kV_ord dc_ord pm_ord an_ord cd_ord ct_ord), sl_ord⟩)
    (c_ord : PySem.W.codeIn K cd_ord "round_order" = true)
    (k_ord : PySem.W.keepIn K (.ref f_ord) = true)
    (a_numb : PySem.W.nsIn K mainGlobals "_law_number" = some (some (.ref f_numb)))
    (l_numb : K.lookup f_numb = some ⟨oc_numb, od_numb, .func (PySem.W.fnOf "_law_number" "_law_number" (defArgs sNumb) (defBody sNumb) (defScope sNumb) .none kV_numb dc_numb pm_numb an_numb cd_numb ct_numb), sl_numb⟩)
    (c_numb : PySem.W.codeIn K cd_numb "_law_number" = true)
    (k_numb : PySem.W.keepIn K (.ref f_numb) = true)
    (a_lRows : PySem.W.nsIn K mainGlobals "_law_rows" = some (some (.ref f_lRows)))
    (l_lRows : K.lookup f_lRows = some ⟨oc_lRows, od_lRows, .func (PySem.W.fnOf "_law_rows" "_law_rows" (defArgs sLRows) (defBody sLRows) (defScope sLRows) .none kV_lRows dc_lRows pm_lRows an_lRows cd_lRows ct_lRows), sl_lRows⟩)
    (c_lRows : PySem.W.codeIn K cd_lRows "_law_rows" = true)
    (k_lRows : PySem.W.keepIn K (.ref f_lRows) = true)
    (a_lApart : PySem.W.nsIn K mainGlobals "_law_apart" = some (some (.ref f_lApart)))
    (l_lApart : K.lookup f_lApart = some ⟨oc_lApart, od_lApart, .func (PySem.W.fnOf "_law_apart" "_law_apart" (defArgs sLApart) (defBody sLApart) (defScope sLApart) .none kV_lApart dc_lApart pm_lApart an_lApart cd_lApart ct_lApart), sl_lApart⟩)
    (c_lApart : PySem.W.codeIn K cd_lApart "_law_apart" = true)
    (k_lApart : PySem.W.keepIn K (.ref f_lApart) = true)
    (a_lDiff : PySem.W.nsIn K mainGlobals "_law_different" = some (some (.ref f_lDiff)))
    (l_lDiff : K.lookup f_lDiff = some ⟨oc_lDiff, od_lDiff, .func (PySem.W.fnOf "_law_different" "_law_different" (defArgs sLDiff) (defBody sLDiff) (defScope sLDiff) .none kV_lDiff dc_lDiff pm_lDiff an_lDiff cd_lDiff ct_lDiff), sl_lDiff⟩)
    (c_lDiff : PySem.W.codeIn K cd_lDiff "_law_different" = true)
    (k_lDiff : PySem.W.keepIn K (.ref f_lDiff) = true)
    (a_lPr : PySem.W.nsIn K mainGlobals "_law_prices" = some (some (.ref f_lPr)))
    (l_lPr : K.lookup f_lPr = some ⟨oc_lPr, od_lPr, .func (PySem.W.fnOf "_law_prices" "_law_prices" (defArgs sLPr) (defBody sLPr) (defScope sLPr) .none kV_lPr dc_lPr pm_lPr an_lPr cd_lPr ct_lPr), sl_lPr⟩)
    (c_lPr : PySem.W.codeIn K cd_lPr "_law_prices" = true)
    (k_lPr : PySem.W.keepIn K (.ref f_lPr) = true)
    (a_gr : PySem.W.nsIn K mainGlobals "_law_grown" = some (some (.ref f_gr)))
    (l_gr : K.lookup f_gr = some ⟨oc_gr, od_gr, .func (PySem.W.fnOf "_law_grown" "_law_grown" (defArgs sGr) (defBody sGr) (defScope sGr) .none kV_gr dc_gr pm_gr an_gr cd_gr ct_gr), sl_gr⟩)
    (c_gr : PySem.W.codeIn K cd_gr "_law_grown" = true)
    (k_gr : PySem.W.keepIn K (.ref f_gr) = true)
    (a_lJ : PySem.W.nsIn K mainGlobals "_law_joined" = some (some (.ref f_lJ)))
    (l_lJ : K.lookup f_lJ = some ⟨oc_lJ, od_lJ, .func (PySem.W.fnOf "_law_joined" "_law_joined" (defArgs sLJ) (defBody sLJ) (defScope sLJ) .none kV_lJ dc_lJ pm_lJ an_lJ cd_lJ ct_lJ), sl_lJ⟩)
    (c_lJ : PySem.W.codeIn K cd_lJ "_law_joined" = true)
    (k_lJ : PySem.W.keepIn K (.ref f_lJ) = true)
    (a_lW : PySem.W.nsIn K mainGlobals "_law_worth" = some (some (.ref f_lW)))
    (l_lW : K.lookup f_lW = some ⟨oc_lW, od_lW, .func (PySem.W.fnOf "_law_worth" "_law_worth" (defArgs sLW) (defBody sLW) (defScope sLW) .none kV_lW dc_lW pm_lW an_lW cd_lW ct_lW), sl_lW⟩)
    (c_lW : PySem.W.codeIn K cd_lW "_law_worth" = true)
    (k_lW : PySem.W.keepIn K (.ref f_lW) = true)
    (a_br : PySem.W.nsIn K mainGlobals "_law_bounds_right" = some (some (.ref f_br)))
    (l_br : K.lookup f_br = some ⟨oc_br, od_br, .func (PySem.W.fnOf "_law_bounds_right" "_law_bounds_right" (defArgs sBR) (defBody sBR) (defScope sBR) .none kV_br dc_br pm_br an_br cd_br ct_br), sl_br⟩)
    (c_br : PySem.W.codeIn K cd_br "_law_bounds_right" = true)
    (k_br : PySem.W.keepIn K (.ref f_br) = true)
    (a_law : PySem.W.nsIn K mainGlobals "law" = some (some (.ref f_law)))
    (l_law : K.lookup f_law = some ⟨oc_law, od_law, .func (PySem.W.fnOf "law" "law" (defArgs sLaw) (defBody sLaw) (defScope sLaw) .none kV_law dc_law pm_law an_law cd_law ct_law), sl_law⟩)
    (c_law : PySem.W.codeIn K cd_law "law" = true)
    (k_law : PySem.W.keepIn K (.ref f_law) = true)
    (pgCT : PySem.W.plainGet K CT Str.empty = true)
    (hdCT : PySem.W.hasDictIn K CT = true)
    (poCT : PySem.W.plainOver K CT = true)
    (saCT : PySem.W.findIn K (.ref CT) "__setattr__" = some (some (.builtin "object.__setattr__")))
    (mkCT : PySem.W.makesIn K CT = true)
    (kcCT : PySem.W.keepIn K (.ref CT) = true)
    (naCT : PySem.W.findIn K (.ref CT) "rows" = some none)
    (h1CT : PySem.W.findIn K (.ref CT) "__class__" = some (some (.builtin "object.__class__")))
    (h4CT : PySem.W.mroIn K CT (.type "object") = some true)
    (pgCB : PySem.W.plainGet K CB Str.empty = true)
    (hdCB : PySem.W.hasDictIn K CB = true)
    (poCB : PySem.W.plainOver K CB = true)
    (saCB : PySem.W.findIn K (.ref CB) "__setattr__" = some (some (.builtin "object.__setattr__")))
    (mkCB : PySem.W.makesIn K CB = true)
    (kcCB : PySem.W.keepIn K (.ref CB) = true)
    (naCB : PySem.W.findIn K (.ref CB) "ties" = some none)
    (h1CB : PySem.W.findIn K (.ref CB) "__class__" = some (some (.builtin "object.__class__")))
    (h4CB : PySem.W.mroIn K CB (.type "object") = some true)
    (h2 : PySem.W.specialIn K (.builtin "object.__class__") "__get__" = some (some (.builtin "getset_descriptor.__get__")))
    (h3 : PySem.W.takesIn K (.builtin "object.__class__") = some true)
    (n_rows : PySem.W.nsIn K mainGlobals "MOST_ROWS" = some (some (.int 10 tk_rows)))
    (n_cols : PySem.W.nsIn K mainGlobals "MOST_COLUMNS" = some (some (.int 4 tk_cols)))
    (n_val : PySem.W.nsIn K mainGlobals "MOST_VALUE" = some (some (.int 6 tk_val)))
    (n_price : PySem.W.nsIn K mainGlobals "MOST_PRICE" = some (some (.int 9 tk_price)))
    (n_diff : PySem.W.nsIn K mainGlobals "MOST_DIFFERENT" = some (some (.int 7 tk_diff)))
    (z_len : PySem.W.nsIn K mainGlobals "len" = some none)
    (z_sum : PySem.W.nsIn K mainGlobals "sum" = some none)
    (z_all : PySem.W.nsIn K mainGlobals "all" = some none)
    (z_any : PySem.W.nsIn K mainGlobals "any" = some none)
    (z_sorted : PySem.W.nsIn K mainGlobals "sorted" = some none)
    (z_min : PySem.W.nsIn K mainGlobals "min" = some none)
    (z_max : PySem.W.nsIn K mainGlobals "max" = some none)
    (z_zip : PySem.W.nsIn K mainGlobals "zip" = some none)
    (z_enumerate : PySem.W.nsIn K mainGlobals "enumerate" = some none)
    (z_range : PySem.W.nsIn K mainGlobals "range" = some none)
    (z_tuple : PySem.W.nsIn K mainGlobals "tuple" = some none)
    (z_list : PySem.W.nsIn K mainGlobals "list" = some none)
    (z_set : PySem.W.nsIn K mainGlobals "set" = some none)
    (z_int : PySem.W.nsIn K mainGlobals "int" = some none)
    (z_bool : PySem.W.nsIn K mainGlobals "bool" = some none)
    (z_isinstance : PySem.W.nsIn K mainGlobals "isinstance" = some none)
    : ∃ fd : FuncData, (∀ (s : Shared) (v : Value), BindsTo s fd ⟨[v], []⟩ [("_law_script", v)]) ∧ ∀ base : Heap, K.In base → base.Ns mainGlobals mg → FnOk l.prog w K mg base CX0 7 fa fd ["_law_script"] (spLaw K) := by
  have e := hfa.symm.trans (PySem.W.mg_of X G a_law)
  cases e
  have F_num := fun_mk (st := sNum) l_num c_num k_num
  have b_num := F_num.binds (ps := ["thing", "least", "most"]) fun _ _ _ _ _ _ us hl => match us, hl with | [_, _, _], _ => rfl
  have F_isRow := fun_mk (st := sIsRow) l_isRow c_isRow k_isRow
  have b_isRow := F_isRow.binds (ps := ["thing", "many"]) fun _ _ _ _ _ _ us hl => match us, hl with | [_, _], _ => rfl
  have F_widthOf := fun_mk (st := sWidthOf) l_widthOf c_widthOf k_widthOf
  have b_widthOf := F_widthOf.binds (ps := ["thing"]) fun _ _ _ _ _ _ us hl => match us, hl with | [_], _ => rfl
  have F_initT := fun_mk (st := sInitT) l_initT c_initT k_initT
  have b_initT := F_initT.binds (ps := ["self", "rows"]) fun _ _ _ _ _ _ us hl => match us, hl with | [_, _], _ => rfl
  have F_width := fun_mk (st := sWidth) l_width c_width k_width
  have b_width := F_width.binds (ps := ["self"]) fun _ _ _ _ _ _ us hl => match us, hl with | [_], _ => rfl
  have F_diff := fun_mk (st := sDiff) l_diff c_diff k_diff
  have b_diff := F_diff.binds (ps := ["self"]) fun _ _ _ _ _ _ us hl => match us, hl with | [_], _ => rfl
  have F_ckT := fun_mk (st := sCkT) l_ckT c_ckT k_ckT
  have b_ckT := F_ckT.binds (ps := ["table"]) fun _ _ _ _ _ _ us hl => match us, hl with | [_], _ => rfl
  have F_ckP := fun_mk (st := sCkP) l_ckP c_ckP k_ckP
  have b_ckP := F_ckP.binds (ps := ["table", "prices"]) fun _ _ _ _ _ _ us hl => match us, hl with | [_, _], _ => rfl
  have F_apart := fun_mk (st := sApart) l_apart c_apart k_apart
  have b_apart := F_apart.binds (ps := ["one", "other", "prices"]) fun _ _ _ _ _ _ us hl => match us, hl with | [_, _, _], _ => rfl
  have F_with := fun_mk (st := sWithout) l_with c_with k_with
  have b_with := F_with.binds (ps := ["lot", "thing"]) fun _ _ _ _ _ _ us hl => match us, hl with | [_, _], _ => rfl
  have F_lots := fun_mk (st := sLots) l_lots c_lots k_lots
  have b_lots := F_lots.binds (ps := ["things"]) fun _ _ _ _ _ _ us hl => match us, hl with | [_], _ => rfl
  have F_pairs := fun_mk (st := sPairs) l_pairs c_pairs k_pairs
  have b_pairs := F_pairs.binds (ps := ["things"]) fun _ _ _ _ _ _ us hl => match us, hl with | [_], _ => rfl
  have F_least := fun_mk (st := sLeast) l_least c_least k_least
  have b_least := F_least.binds (ps := ["lot", "last", "costs", "rest"]) fun _ _ _ _ _ _ us hl => match us, hl with | [_, _, _, _], _ => rfl
  have F_rest := fun_mk (st := sRest) l_rest c_rest k_rest
  have b_rest := F_rest.binds (ps := ["things", "costs"]) fun _ _ _ _ _ _ us hl => match us, hl with | [_, _], _ => rfl
  have F_lCost := fun_mk (st := sLCost) l_lCost c_lCost k_lCost
  have b_lCost := F_lCost.binds (ps := ["things", "rest"]) fun _ _ _ _ _ _ us hl => match us, hl with | [_, _], _ => rfl
  have F_initB := fun_mk (st := sInitB) l_initB c_initB k_initB
  have b_initB := F_initB.binds (ps := ["self", "ties"]) fun _ _ _ _ _ _ us hl => match us, hl with | [_, _], _ => rfl
  have F_eqB := fun_mk (st := sEqB) l_eqB c_eqB k_eqB
  have b_eqB := F_eqB.binds (ps := ["self", "other"]) fun _ _ _ _ _ _ us hl => match us, hl with | [_, _], _ => rfl
  have F_few := fun_mk (st := sFew) l_few c_few k_few
  have b_few := F_few.binds (ps := ["table", "prices"]) fun _ _ _ _ _ _ us hl => match us, hl with | [_, _], _ => rfl
  have F_rows := fun_mk (st := sRows) l_rows c_rows k_rows
  have b_rows := F_rows.binds (ps := ["table"]) fun _ _ _ _ _ _ us hl => match us, hl with | [_], _ => rfl
  have F_costs := fun_mk (st := sCosts) l_costs c_costs k_costs
  have b_costs := F_costs.binds (ps := ["table", "prices"]) fun _ _ _ _ _ _ us hl => match us, hl with | [_, _], _ => rfl
  have F_isTie := fun_mk (st := sIsTie) l_isTie c_isTie k_isTie
  have b_isTie := F_isTie.binds (ps := ["rows", "tie"]) fun _ _ _ _ _ _ us hl => match us, hl with | [_, _], _ => rfl
  have F_join := fun_mk (st := sJoin) l_join c_join k_join
  have b_join := F_join.binds (ps := ["ties", "row"]) fun _ _ _ _ _ _ us hl => match us, hl with | [_, _], _ => rfl
  have F_way := fun_mk (st := sWay) l_way c_way k_way
  have b_way := F_way.binds (ps := ["ties", "one", "other"]) fun _ _ _ _ _ _ us hl => match us, hl with | [_, _, _], _ => rfl
  have F_fair := fun_mk (st := sFair) l_fair c_fair k_fair
  have b_fair := F_fair.binds (ps := ["self", "one", "other", "costs"]) fun _ _ _ _ _ _ us hl => match us, hl with | [_, _, _, _], _ => rfl
  have F_shows := fun_mk (st := sShows) l_shows c_shows k_shows
  have b_shows := F_shows.binds (ps := ["self", "table", "prices"]) fun _ _ _ _ _ _ us hl => match us, hl with | [_, _, _], _ => rfl
  have F_lCh := fun_mk (st := sLCh) l_lCh c_lCh k_lCh
  have b_lCh := F_lCh.binds (ps := ["table", "prices"]) fun _ _ _ _ _ _ us hl => match us, hl with | [_, _], _ => rfl
  have F_tree := fun_mk (st := sTree) l_tree c_tree k_tree
  have b_tree := F_tree.binds (ps := ["table", "prices"]) fun _ _ _ _ _ _ us hl => match us, hl with | [_, _], _ => rfl
  have F_lTies := fun_mk (st := sLTies) l_lTies c_lTies k_lTies
  have b_lTies := F_lTies.binds (ps := ["table", "prices"]) fun _ _ _ _ _ _ us hl => match us, hl with | [_, _], _ => rfl
  have F_ord := fun_mk (st := sOrd) l_ord c_ord k_ord
  have b_ord := F_ord.binds (ps := ["table", "prices"]) fun _ _ _ _ _ _ us hl => match us, hl with | [_, _], _ => rfl
  have F_numb := fun_mk (st := sNumb) l_numb c_numb k_numb
  have b_numb := F_numb.binds (ps := ["_law_script", "_law_at"]) fun _ _ _ _ _ _ us hl => match us, hl with | [_, _], _ => rfl
  have F_lRows := fun_mk (st := sLRows) l_lRows c_lRows k_lRows
  have b_lRows := F_lRows.binds (ps := ["_law_script", "_law_at", "_law_most", "_law_columns", "_law_values"]) fun _ _ _ _ _ _ us hl => match us, hl with | [_, _, _, _, _], _ => rfl
  have F_lApart := fun_mk (st := sLApart) l_lApart c_lApart k_lApart
  have b_lApart := F_lApart.binds (ps := ["_law_one", "_law_other", "_law_prices_here"]) fun _ _ _ _ _ _ us hl => match us, hl with | [_, _, _], _ => rfl
  have F_lDiff := fun_mk (st := sLDiff) l_lDiff c_lDiff k_lDiff
  have b_lDiff := F_lDiff.binds (ps := ["_law_rows_here"]) fun _ _ _ _ _ _ us hl => match us, hl with | [_], _ => rfl
  have F_lPr := fun_mk (st := sLPr) l_lPr c_lPr k_lPr
  have b_lPr := F_lPr.binds (ps := ["_law_script", "_law_at", "_law_columns"]) fun _ _ _ _ _ _ us hl => match us, hl with | [_, _, _], _ => rfl
  have F_gr := fun_mk (st := sGr) l_gr c_gr k_gr
  have b_gr := F_gr.binds (ps := ["_law_rows_here", "_law_prices_here"]) fun _ _ _ _ _ _ us hl => match us, hl with | [_, _], _ => rfl
  have F_lJ := fun_mk (st := sLJ) l_lJ c_lJ k_lJ
  have b_lJ := F_lJ.binds (ps := ["_law_rows_here", "_law_ties"]) fun _ _ _ _ _ _ us hl => match us, hl with | [_, _], _ => rfl
  have F_lW := fun_mk (st := sLW) l_lW c_lW k_lW
  have b_lW := F_lW.binds (ps := ["_law_ties", "_law_prices_here"]) fun _ _ _ _ _ _ us hl => match us, hl with | [_, _], _ => rfl
  have F_br := fun_mk (st := sBR) l_br c_br k_br
  have b_br := F_br.binds (ps := ["_law_script", "_law_columns", "_law_rows_here", "_law_different_here", "_law_prices_here", "_law_table", "_law_ties", "_law_found", "_law_whole"]) fun _ _ _ _ _ _ us hl => match us, hl with | [_, _, _, _, _, _, _, _, _], _ => rfl
  have F_law := fun_mk (st := sLaw) l_law c_law k_law
  refine ⟨PySem.W.fnOf "law" "law" (defArgs sLaw) (defBody sLaw) (defScope sLaw) .none kV_law dc_law pm_law an_law cd_law ct_law, fun s v => .of_eq rfl, fun base _ _ => ?_⟩
  have gl : Glob ⟨l.prog, w, K, mg, base, CT, CB⟩ := {
    len := PySem.W.mg_none_of X G z_len
    sum := PySem.W.mg_none_of X G z_sum
    all := PySem.W.mg_none_of X G z_all
    any := PySem.W.mg_none_of X G z_any
    sorted := PySem.W.mg_none_of X G z_sorted
    min := PySem.W.mg_none_of X G z_min
    max := PySem.W.mg_none_of X G z_max
    zip := PySem.W.mg_none_of X G z_zip
    enumerate := PySem.W.mg_none_of X G z_enumerate
    range := PySem.W.mg_none_of X G z_range
    tuple := PySem.W.mg_none_of X G z_tuple
    list := PySem.W.mg_none_of X G z_list
    set := PySem.W.mg_none_of X G z_set
    int := PySem.W.mg_none_of X G z_int
    bool := PySem.W.mg_none_of X G z_bool
    isinstance := PySem.W.mg_none_of X G z_isinstance
    table := PySem.W.mg_of X G aT
    bound := PySem.W.mg_of X G aB
    clT := ⟨pgCT, hdCT, poCT, saCT⟩
    clB := ⟨pgCB, hdCB, poCB, saCB⟩
    naT := naCT
    naB := naCB
    isT := kcCT
    isB := kcCB
    isfT := ⟨h1CT, h2, h3, h4CT⟩
    isfB := ⟨h1CB, h2, h3, h4CB⟩ }
  have nm : Nums ⟨l.prog, w, K, mg, base, CT, CB⟩ := ⟨⟨_, PySem.W.mg_of X G n_rows⟩, ⟨_, PySem.W.mg_of X G n_cols⟩, ⟨_, PySem.W.mg_of X G n_val⟩, ⟨_, PySem.W.mg_of X G n_price⟩, ⟨_, PySem.W.mg_of X G n_diff⟩⟩
  have J := join_law gl nm
    F_num (PySem.W.mg_of X G a_num) b_num
    F_isRow (PySem.W.mg_of X G a_isRow) b_isRow
    F_widthOf (PySem.W.mg_of X G a_widthOf) b_widthOf
    F_initT ⟨mkCT, a_initT, i_initT, kcCT⟩ b_initT
    F_width ⟨a_width, g_width, t_width, ⟨_, r_width⟩⟩ b_width
    F_diff ⟨a_diff, i_diff, k_diff⟩ b_diff
    F_ckT (PySem.W.mg_of X G a_ckT) b_ckT
    F_ckP (PySem.W.mg_of X G a_ckP) b_ckP
    F_apart (PySem.W.mg_of X G a_apart) b_apart
    F_with (PySem.W.mg_of X G a_with) b_with
    F_lots (PySem.W.mg_of X G a_lots) b_lots
    F_pairs (PySem.W.mg_of X G a_pairs) b_pairs
    F_least (PySem.W.mg_of X G a_least) b_least
    F_rest (PySem.W.mg_of X G a_rest) b_rest
    F_lCost (PySem.W.mg_of X G a_lCost) b_lCost
    F_initB ⟨mkCB, a_initB, i_initB, kcCB⟩ b_initB
    F_eqB a_eqB i_eqB b_eqB
    F_few (PySem.W.mg_of X G a_few) b_few
    F_rows (PySem.W.mg_of X G a_rows) b_rows
    F_costs (PySem.W.mg_of X G a_costs) b_costs
    F_isTie (PySem.W.mg_of X G a_isTie) b_isTie
    F_join (PySem.W.mg_of X G a_join) b_join
    F_way (PySem.W.mg_of X G a_way) b_way
    F_fair ⟨a_fair, i_fair, k_fair⟩ b_fair
    F_shows ⟨a_shows, i_shows, k_shows⟩ b_shows
    F_lCh (PySem.W.mg_of X G a_lCh) b_lCh
    F_tree (PySem.W.mg_of X G a_tree) b_tree
    F_lTies (PySem.W.mg_of X G a_lTies) b_lTies
    F_ord (PySem.W.mg_of X G a_ord) b_ord
    F_numb (PySem.W.mg_of X G a_numb) b_numb
    F_lRows (PySem.W.mg_of X G a_lRows) b_lRows
    F_lApart (PySem.W.mg_of X G a_lApart) b_lApart
    F_lDiff (PySem.W.mg_of X G a_lDiff) b_lDiff
    F_lPr (PySem.W.mg_of X G a_lPr) b_lPr
    F_gr (PySem.W.mg_of X G a_gr) b_gr
    F_lJ (PySem.W.mg_of X G a_lJ) b_lJ
    F_lW (PySem.W.mg_of X G a_lW) b_lW
    F_br (PySem.W.mg_of X G a_br) b_br
    F_law  
  exact J.imp (spLaw_imp (G := ⟨l.prog, w, K, mg, base, CT, CB⟩) pl)
theorem walk (pl : Plain) {l : PySem.W.OpenLaw} {q : Program} {loose : List Str} {XP : (Str → Option Value) → Heap → Prop} {YP : World → Heap → Prop} {d : DefRec} {K : Params → PySem.W.Frag} (hn : l.most = some 63) (hdf : d.params.defaults = [])
    (hY : ∀ (w : World) (h : Heap), YP w h → (K w.params).In h)
    (F : ∀ (w : World) (mg : Str → Option Value) (fa : Addr) (h : Heap), (K w.params).In h → h.Ns mainGlobals mg → mg d.name = some (.ref fa) →
      ∃ fd : FuncData, (∀ (s : Shared) (u : Value), BindsTo s fd ⟨[u], []⟩ [("_law_script", u)]) ∧ ∀ base : Heap, (K w.params).In base → base.Ns mainGlobals mg → FnOk l.prog w (K w.params) mg base CX0 7 fa fd ["_law_script"] (spLaw (K w.params))) :
    PySem.W.WalkO q loose XP YP l.row.toRowW d [] (fun f vs => PySem.call f vs) :=
  L2.walk_of (n := 63) (k := 7) (x := "_law_script") (CX := fun _ => CX0) (sp := fun w => spLaw (K w.params)) hn (by decide) hdf ⟨rfl, by decide, by decide⟩ hY F (fun _ _ a ns hl _ hS => ⟨a, ns, rfl, hS, hl, fun _ => rfl⟩) fun _ _ _ _ _ z => z
end RC

/-! RqC: plain law: ties that join, how many parts there are. -/
namespace RC
section
variable {α : Type}
/-- joined by ties, both ways -/
inductive Conn (T : List (α × α)) : α → α → Prop where
  | refl (a : α) : Conn T a a
  | fwd {a b c : α} (h : Conn T a b) (m : (b, c) ∈ T) : Conn T a c
  | bwd {a b c : α} (h : Conn T a b) (m : (c, b) ∈ T) : Conn T a c
variable {T T' : List (α × α)} {a b c : α} {e : α × α}
theorem Conn.trans (h1 : Conn T a b) (h2 : Conn T b c) : Conn T a c := by
  induction h2 with
  | refl => exact h1
  | fwd _ m ih => exact .fwd ih m
  | bwd _ m ih => exact .bwd ih m
theorem Conn.one (m : e ∈ T) : Conn T e.1 e.2 := .fwd (.refl _) m
theorem Conn.symm (h : Conn T a b) : Conn T b a := by
  induction h with
  | refl => exact .refl _
  | fwd _ m ih => exact (Conn.bwd (.refl _) m).trans ih
  | bwd _ m ih => exact (Conn.fwd (.refl _) m).trans ih
theorem Conn.lift (h : ∀ t, t ∈ T → Conn T' t.1 t.2) (k : Conn T a b) : Conn T' a b := by
  induction k with
  | refl => exact .refl _
  | fwd _ m ih => exact ih.trans (h _ m)
  | bwd _ m ih => exact ih.trans (h _ m).symm
theorem Conn.mono (h : ∀ t, t ∈ T → t ∈ T') (k : Conn T a b) : Conn T' a b := k.lift fun t ht => .one (h t ht)
theorem Conn.closed {S : α → Prop} (h : ∀ t, t ∈ T → (S t.1 ↔ S t.2)) (k : Conn T a b) : S a ↔ S b := by
  induction k with
  | refl => exact Iff.rfl
  | fwd _ m ih => exact ih.trans (h _ m)
  | bwd _ m ih => exact ih.trans (h _ m).symm
theorem Conn.cases_cons (h : Conn (e :: T) a b) : Conn T a b ∨ (Conn T a e.1 ∧ Conn T e.2 b) ∨ (Conn T a e.2 ∧ Conn T e.1 b) := by
  induction h with
  | refl => exact .inl (.refl _)
  | @fwd y z _ m ih =>
    rcases List.mem_cons.mp m with q | q
    · subst q
      rcases ih with i | ⟨i, j⟩ | ⟨i, j⟩
      · exact .inr (.inl ⟨i, .refl _⟩)
      · exact .inr (.inl ⟨i, .refl _⟩)
      · exact .inl i
    · rcases ih with i | ⟨i, j⟩ | ⟨i, j⟩
      · exact .inl (.fwd i q)
      · exact .inr (.inl ⟨i, .fwd j q⟩)
      · exact .inr (.inr ⟨i, .fwd j q⟩)
  | @bwd y z _ m ih =>
    rcases List.mem_cons.mp m with q | q
    · subst q
      rcases ih with i | ⟨i, j⟩ | ⟨i, j⟩
      · exact .inr (.inr ⟨i, .refl _⟩)
      · exact .inl i
      · exact .inr (.inr ⟨i, .refl _⟩)
    · rcases ih with i | ⟨i, j⟩ | ⟨i, j⟩
      · exact .inl (.bwd i q)
      · exact .inr (.inl ⟨i, .bwd j q⟩)
      · exact .inr (.inr ⟨i, .bwd j q⟩)
theorem Conn.of_nil (h : Conn ([] : List (α × α)) a b) : a = b := by
  induction h with
  | refl => rfl
  | fwd _ m _ => cases m
  | bwd _ m _ => cases m

/-- how many parts the places V have: a place counts where none behind it is joined to it -/
noncomputable def comp (T : List (α × α)) : List α → Nat
  | [] => 0
  | v :: V => comp T V + @ite _ (∃ u, u ∈ V ∧ Conn T u v) (Classical.propDecidable _) 0 1
theorem comp_in {V : List α} {v : α} (h : ∃ u, u ∈ V ∧ Conn T u v) : comp T (v :: V) = comp T V := by
  unfold comp
  rw [if_pos h]
  cases V <;> rfl
theorem comp_out {V : List α} {v : α} (h : ¬ ∃ u, u ∈ V ∧ Conn T u v) : comp T (v :: V) = comp T V + 1 := by
  rw [comp, if_neg h]
/-- more ties, fewer parts; as many parts only if nothing new is joined -/
theorem comp_le (hm : ∀ a b, Conn T a b → Conn T' a b) : ∀ V : List α, comp T' V ≤ comp T V ∧ (comp T' V = comp T V → ∀ a b, a ∈ V → b ∈ V → Conn T' a b → Conn T a b)
  | [] => ⟨Nat.le_refl _, fun _ a _ h => nomatch h⟩
  | v :: V => by
    obtain ⟨i1, i2⟩ := comp_le hm V
    by_cases h1 : ∃ u, u ∈ V ∧ Conn T u v
    · have h2 : ∃ u, u ∈ V ∧ Conn T' u v := h1.imp fun u q => ⟨q.1, hm _ _ q.2⟩
      rw [comp_in h1, comp_in h2]
      refine ⟨i1, fun e => ?_⟩
      have k := i2 e
      obtain ⟨u, hu, cu⟩ := h1
      have key : ∀ x, x ∈ V → Conn T' x v → Conn T x v := fun x hx hc => (k x u hx hu (hc.trans (hm _ _ cu.symm))).trans cu
      intro x y hx hy hc
      rcases List.mem_cons.mp hx with rfl | hx
      · rcases List.mem_cons.mp hy with rfl | hy
        · exact .refl _
        · exact (key y hy hc.symm).symm
      · rcases List.mem_cons.mp hy with e | hy
        · rw [e]
          exact key x hx (e ▸ hc)
        · exact k x y hx hy hc
    · by_cases h2 : ∃ u, u ∈ V ∧ Conn T' u v
      · rw [comp_out h1, comp_in h2]
        exact ⟨by omega, fun e => by omega⟩
      · rw [comp_out h1, comp_out h2]
        refine ⟨by omega, fun e => ?_⟩
        have k := i2 (by omega)
        intro x y hx hy hc
        rcases List.mem_cons.mp hx with rfl | hx
        · rcases List.mem_cons.mp hy with rfl | hy
          · exact .refl _
          · exact absurd ⟨y, hy, hc.symm⟩ h2
        · rcases List.mem_cons.mp hy with e | hy
          · exact absurd ⟨x, hx, e ▸ hc⟩ h2
          · exact k x y hx hy hc
theorem comp_congr (h : ∀ a b, Conn T a b ↔ Conn T' a b) (V : List α) : comp T V = comp T' V :=
  Nat.le_antisymm (comp_le (fun a b => (h a b).mpr) V).1 (comp_le (fun a b => (h a b).mp) V).1
/-- a tie takes one part away at most -/
theorem comp_edge (e : α × α) : ∀ V : List α, comp T V ≤ comp (e :: T) V + 1 ∧ (comp T V = comp (e :: T) V ∨ ((∃ x, x ∈ V ∧ Conn T x e.1) ∧ ∃ y, y ∈ V ∧ Conn T y e.2))
  | [] => ⟨Nat.le_succ _, .inl rfl⟩
  | v :: V => by
    have hm : ∀ {a b}, Conn T a b → Conn (e :: T) a b := fun k => k.mono fun t => List.mem_cons_of_mem _
    obtain ⟨i1, i2⟩ := comp_edge e V
    have i0 := (comp_le (T := T) (T' := e :: T) (fun a b => hm) V).1
    by_cases h1 : ∃ u, u ∈ V ∧ Conn T u v
    · have h2 : ∃ u, u ∈ V ∧ Conn (e :: T) u v := h1.imp fun u q => ⟨q.1, hm q.2⟩
      rw [comp_in h1, comp_in h2]
      refine ⟨i1, i2.imp id fun ⟨⟨x, hx, cx⟩, y, hy, cy⟩ => ⟨⟨x, List.mem_cons_of_mem _ hx, cx⟩, y, List.mem_cons_of_mem _ hy, cy⟩⟩
    · by_cases h2 : ∃ u, u ∈ V ∧ Conn (e :: T) u v
      · rw [comp_out h1, comp_in h2]
        obtain ⟨u, hu, cu⟩ := h2
        rcases cu.cases_cons with q | ⟨q1, q2⟩ | ⟨q1, q2⟩
        · exact absurd ⟨u, hu, q⟩ h1
        · rcases i2 with i2 | ⟨_, y, hy, cy⟩
          · exact ⟨by omega, .inr ⟨⟨u, List.mem_cons_of_mem _ hu, q1⟩, v, List.mem_cons_self, q2.symm⟩⟩
          · exact absurd ⟨y, hy, cy.trans q2⟩ h1
        · rcases i2 with i2 | ⟨⟨x, hx, cx⟩, _⟩
          · exact ⟨by omega, .inr ⟨⟨v, List.mem_cons_self, q2.symm⟩, u, List.mem_cons_of_mem _ hu, q1⟩⟩
          · exact absurd ⟨x, hx, cx.trans q2⟩ h1
      · rw [comp_out h1, comp_out h2]
        refine ⟨by omega, i2.imp (fun q => by rw [q]) fun ⟨⟨x, hx, cx⟩, y, hy, cy⟩ => ⟨⟨x, List.mem_cons_of_mem _ hx, cx⟩, y, List.mem_cons_of_mem _ hy, cy⟩⟩
theorem comp_app (V : List α) : ∀ S : List (α × α), comp T V ≤ comp (S ++ T) V + S.length
  | [] => Nat.le_refl _
  | e :: S => by
    have h1 := comp_app V S
    have h2 := (comp_edge (T := S ++ T) e V).1
    simp only [List.cons_append, List.length_cons]
    omega
theorem comp_none : ∀ {V : List α}, V.Nodup → comp ([] : List (α × α)) V = V.length
  | [], _ => rfl
  | v :: V, h => by
    have h' := List.nodup_cons.mp h
    rw [comp_out fun ⟨u, hu, c⟩ => h'.1 (c.of_nil ▸ hu), comp_none h'.2, List.length_cons]
theorem comp_ge {V : List α} (h : V.Nodup) (S : List (α × α)) : V.length ≤ comp S V + S.length := by
  have := comp_app (T := []) V S
  rw [comp_none h, List.append_nil] at this
  exact this
theorem comp_one : ∀ {V : List α}, V ≠ [] → (∀ a b, a ∈ V → b ∈ V → Conn T a b) → comp T V = 1
  | [], h, _ => absurd rfl h
  | [v], _, _ => by rw [comp_out (by rintro ⟨u, hu, _⟩; cases hu)]; rfl
  | v :: u :: V, _, h => by
    rw [comp_in ⟨u, List.mem_cons_self, h u v (List.mem_cons_of_mem _ List.mem_cons_self) List.mem_cons_self⟩]
    exact comp_one (by simp) fun a b ha hb => h a b (List.mem_cons_of_mem _ ha) (List.mem_cons_of_mem _ hb)
theorem comp_pos : ∀ {V : List α}, V ≠ [] → 1 ≤ comp T V
  | [], h => absurd rfl h
  | [v], _ => by rw [comp_out (by rintro ⟨u, hu, _⟩; cases hu)]; exact Nat.le_add_left _ _
  | v :: u :: V, _ => by
    have := comp_pos (V := u :: V) (by simp)
    rw [comp]
    exact Nat.le_trans this (Nat.le_add_right _ _)

/-! ### trees: one tie less than places, all joined -/
structure Span (V : List α) (T : List (α × α)) : Prop where
  nd : V.Nodup
  ne : V ≠ []
  len : T.length + 1 = V.length
  mem : ∀ t, t ∈ T → t.1 ∈ V ∧ t.2 ∈ V
  all : ∀ a b, a ∈ V → b ∈ V → Conn T a b
theorem Span.short {V : List α} (S : Span V T) {T' : List (α × α)} (h : T'.length < T.length) : ¬ ∀ a b, Conn T a b → Conn T' a b := fun k => by
  have h1 := comp_ge S.nd T'
  have h2 := comp_one (T := T') S.ne fun a b ha hb => k a b (S.all a b ha hb)
  have h3 := S.len
  omega
variable [DecidableEq α]
theorem Span.nodup {V : List α} (S : Span V T) : T.Nodup := by
  have key : ∀ T : List (α × α), ¬ T.Nodup → ∃ T' : List (α × α), T'.length < T.length ∧ ∀ t, t ∈ T → t ∈ T' := by
    intro T
    induction T with
    | nil => exact fun h => absurd List.nodup_nil h
    | cons t T ih =>
      intro h
      by_cases hm : t ∈ T
      · exact ⟨T, by simp, fun x hx => by
          rcases List.mem_cons.mp hx with rfl | hx
          · exact hm
          · exact hx⟩
      · obtain ⟨T', h1, h2⟩ := ih fun n => h (List.nodup_cons.mpr ⟨hm, n⟩)
        exact ⟨t :: T', by simpa using h1, fun x hx => by
          rcases List.mem_cons.mp hx with rfl | hx
          · exact List.mem_cons_self
          · exact List.mem_cons_of_mem _ (h2 x hx)⟩
  by_cases h : T.Nodup
  · exact h
  · obtain ⟨T', h1, h2⟩ := key T h
    exact absurd (fun a b k => k.mono h2) (S.short h1)
/-- without one of its ties a tree falls apart there -/
theorem Span.bridge {V : List α} (S : Span V T) {t : α × α} (ht : t ∈ T) : ¬ Conn (T.filter fun l => decide (l ≠ t)) t.1 t.2 := fun k => by
  refine S.short (T' := T.filter fun l => decide (l ≠ t)) ?_ fun a b h => h.lift fun x hx => ?_
  · rcases Nat.lt_or_eq_of_le (List.length_filter_le (fun l => decide (l ≠ t)) T) with h1 | h1
    · exact h1
    · have := List.length_filter_eq_length_iff.mp h1 t ht
      simp at this
  · by_cases e : x = t
    · rw [e]; exact k
    · exact .one (List.mem_filter.mpr ⟨hx, by simpa using e⟩)
end
end RC

/-! RqD: plain law: fair trees are the least trees. -/
namespace RC
section
variable {α : Type} {T S : List (α × α)} {V : List α} {c : α → α → Nat} {x B : Nat}
def low (c : α → α → Nat) (x : Nat) (T : List (α × α)) : List (α × α) := T.filter fun t => decide (c t.1 t.2 ≤ x)
def high (c : α → α → Nat) (x : Nat) (T : List (α × α)) : List (α × α) := T.filter fun t => decide (x < c t.1 t.2)
def Fair (c : α → α → Nat) (V : List α) (T : List (α × α)) : Prop := ∀ a b, a ∈ V → b ∈ V → Conn (low c (c a b) T) a b
def cost (c : α → α → Nat) (T : List (α × α)) : Nat := (T.map fun t => c t.1 t.2).sum
theorem low_mem {t : α × α} : t ∈ low c x T ↔ t ∈ T ∧ c t.1 t.2 ≤ x := by unfold low; rw [List.mem_filter, decide_eq_true_eq]
theorem low_up {y : Nat} (h : x ≤ y) {t : α × α} (m : t ∈ low c x T) : t ∈ low c y T := by
  have := low_mem.mp m
  exact low_mem.mpr ⟨this.1, Nat.le_trans this.2 h⟩
theorem low_high : ∀ T : List (α × α), (low c x T).length + (high c x T).length = T.length
  | [] => rfl
  | t :: T => by
    have ih := low_high T
    unfold low high at *
    rw [List.filter_cons, List.filter_cons]
    by_cases h : c t.1 t.2 ≤ x
    · rw [if_pos (decide_eq_true h), if_neg (by simp; omega), List.length_cons, List.length_cons]
      omega
    · rw [if_neg (by simp; omega), if_pos (decide_eq_true (by omega)), List.length_cons, List.length_cons]
      omega
theorem Span.parts (P : Span V S) : comp (low c x S) V = (high c x S).length + 1 := by
  have h1 := comp_app (T := low c x S) V (high c x S)
  have h2 : comp (high c x S ++ low c x S) V = 1 := comp_one P.ne fun a b ha hb => (P.all a b ha hb).mono fun t ht => by
    rw [List.mem_append]
    rcases Nat.lt_or_ge x (c t.1 t.2) with q | q
    · exact .inl (List.mem_filter.mpr ⟨ht, decide_eq_true q⟩)
    · exact .inr (low_mem.mpr ⟨ht, q⟩)
  have h3 := comp_ge P.nd (low c x S)
  have h4 := low_high (c := c) (x := x) S
  have h5 := P.len
  omega
theorem sum_add {β : Type} (f g : β → Nat) : ∀ l : List β, (l.map fun z => f z + g z).sum = (l.map f).sum + (l.map g).sum
  | [] => rfl
  | z :: l => by
    have := sum_add f g l
    simp only [List.map_cons, List.sum_cons]
    omega
theorem sum_le {β : Type} (f g : β → Nat) : ∀ l : List β, (∀ z, z ∈ l → f z ≤ g z) → (l.map f).sum ≤ (l.map g).sum ∧ ((l.map f).sum = (l.map g).sum → ∀ z, z ∈ l → f z = g z)
  | [], _ => ⟨Nat.le_refl _, fun _ _ h => nomatch h⟩
  | z :: l, h => by
    obtain ⟨i1, i2⟩ := sum_le f g l fun y hy => h y (List.mem_cons_of_mem _ hy)
    have h0 := h z List.mem_cons_self
    simp only [List.map_cons, List.sum_cons]
    refine ⟨by omega, fun e y hy => ?_⟩
    rcases List.mem_cons.mp hy with rfl | hy
    · omega
    · exact i2 (by omega) y hy
theorem sum_steps (k : Nat) : ∀ B, ((List.range B).map fun z => if z < k then 1 else 0).sum = min k B
  | 0 => by simp
  | B + 1 => by
    rw [List.range_succ, List.map_append, List.sum_append, sum_steps k B]
    simp only [List.map_cons, List.map_nil, List.sum_cons, List.sum_nil]
    split <;> omega
theorem cost_levels (hB : ∀ a b, c a b ≤ B) : ∀ T : List (α × α), cost c T = ((List.range B).map fun z => (high c z T).length).sum
  | [] => by
    have : (fun z : Nat => (high c z ([] : List (α × α))).length) = fun _ => 0 := rfl
    rw [this]
    clear this hB
    induction B with
    | zero => rfl
    | succ B ih => rw [List.range_succ, List.map_append, List.sum_append, ← ih]; rfl
  | t :: T => by
    have e : (fun z : Nat => (high c z (t :: T)).length) = fun z => (if z < c t.1 t.2 then 1 else 0) + (high c z T).length := by
      funext z
      unfold high
      rw [List.filter_cons]
      by_cases h : z < c t.1 t.2
      · rw [if_pos (decide_eq_true h), if_pos h, List.length_cons, Nat.add_comm]
      · rw [if_neg (by simpa using h), if_neg h, Nat.zero_add]
    rw [e, sum_add, sum_steps, ← cost_levels hB T, Nat.min_eq_left (hB t.1 t.2)]
    rfl
theorem Fair.low (F : Fair c V T) (P : Span V S) {a b : α} (h : Conn (low c x S) a b) : Conn (low c x T) a b := h.lift fun t ht => by
  have h1 := low_mem.mp ht
  have h2 := P.mem t h1.1
  exact (F t.1 t.2 h2.1 h2.2).mono fun l hl => low_up h1.2 hl
theorem Fair.level (F : Fair c V T) (PT : Span V T) (PS : Span V S) (x : Nat) : (high c x T).length ≤ (high c x S).length := by
  have h1 := (comp_le (T := RC.low c x S) (T' := RC.low c x T) (fun a b h => F.low PS h) V).1
  rw [PT.parts, PS.parts] at h1
  omega
/-- a fair tree is a least one -/
theorem Fair.least (hB : ∀ a b, c a b ≤ B) (F : Fair c V T) (PT : Span V T) (PS : Span V S) : cost c T ≤ cost c S := by
  rw [cost_levels hB, cost_levels hB]
  exact (sum_le _ _ _ fun z _ => F.level PT PS z).1
/-- a tree that is as cheap as a fair one is fair -/
theorem Fair.of_least (hB : ∀ a b, c a b ≤ B) (F : Fair c V T) (PT : Span V T) (PS : Span V S) (h : cost c S = cost c T) : Fair c V S := fun a b ha hb => by
  rw [cost_levels hB, cost_levels hB] at h
  rcases Nat.lt_or_ge (c a b) B with hx | hx
  · have h1 := (sum_le (fun z => (high c z T).length) (fun z => (high c z S).length) (List.range B) fun z _ => F.level PT PS z).2 h.symm (c a b) (List.mem_range.mpr hx)
    refine (comp_le (T := RC.low c (c a b) S) (T' := RC.low c (c a b) T) (fun a b h => F.low PS h) V).2 ?_ a b ha hb (F a b ha hb)
    rw [PT.parts, PS.parts]
    omega
  · exact (PS.all a b ha hb).mono fun t ht => low_mem.mpr ⟨ht, Nat.le_trans (hB _ _) hx⟩
/-- fair by each tie of the way, as the program asks -/
def FairW [DecidableEq α] (c : α → α → Nat) (T : List (α × α)) (a b : α) : Prop := ∀ t, t ∈ T → ¬ Conn (T.filter fun l => decide (l ≠ t)) a b → c t.1 t.2 ≤ c a b
theorem Fair.way [DecidableEq α] {a b : α} (h : Conn (RC.low c (c a b) T) a b) : FairW c T a b := fun t ht hn => by
  rcases Nat.lt_or_ge (c a b) (c t.1 t.2) with q | q
  · exact absurd (h.mono fun l hl => by
      have := low_mem.mp hl
      refine List.mem_filter.mpr ⟨this.1, decide_eq_true fun e => ?_⟩
      rw [e] at this
      omega) hn
  · exact q
theorem Span.drop [DecidableEq α] (P : Span V T) {a b : α} : ∀ R : List (α × α), (∀ t, t ∈ R → t ∈ T ∧ Conn (T.filter fun l => decide (l ≠ t)) a b) → a ∈ V → b ∈ V → Conn (T.filter fun l => decide (l ∉ R)) a b
  | [], _, ha, hb => (P.all a b ha hb).mono fun t ht => List.mem_filter.mpr ⟨ht, by simp⟩
  | t :: R, h, ha, hb => by
    have ih := P.drop (a := a) (b := b) R (fun s hs => h s (List.mem_cons_of_mem _ hs)) ha hb
    obtain ⟨ht, hc⟩ := h t List.mem_cons_self
    have sub : ∀ l, l ∈ (T.filter fun l => decide (l ∉ t :: R)) → l ∈ T.filter fun l => decide (l ≠ t) := fun l hl => by
      obtain ⟨h1, h2⟩ := List.mem_filter.mp hl
      refine List.mem_filter.mpr ⟨h1, decide_eq_true fun e => ?_⟩
      rw [e] at h2
      simp at h2
    have ih2 : Conn (t :: T.filter fun l => decide (l ∉ t :: R)) a b := ih.mono fun l hl => by
      obtain ⟨h1, h2⟩ := List.mem_filter.mp hl
      by_cases e : l = t
      · rw [e]; exact List.mem_cons_self
      · refine List.mem_cons_of_mem _ (List.mem_filter.mpr ⟨h1, decide_eq_true fun hm => ?_⟩)
        rcases List.mem_cons.mp hm with q | q
        · exact e q
        · simp [q] at h2
    rcases ih2.cases_cons with q | ⟨q1, q2⟩ | ⟨q1, q2⟩
    · exact q
    · exact absurd (((q1.mono sub).symm.trans hc).trans (q2.mono sub).symm) (P.bridge ht)
    · exact absurd (((q2.mono sub).trans hc.symm).trans (q1.mono sub)) (P.bridge ht)
theorem Span.fair_of_way [DecidableEq α] (P : Span V T) {a b : α} (ha : a ∈ V) (hb : b ∈ V) (h : FairW c T a b) : Conn (RC.low c (c a b) T) a b := by
  refine (P.drop (a := a) (b := b) (high c (c a b) T) (fun t ht => ?_) ha hb).mono fun l hl => ?_
  · obtain ⟨h1, h2⟩ := List.mem_filter.mp ht
    refine ⟨h1, Classical.byContradiction fun hn => ?_⟩
    have := h t h1 hn
    simp only [decide_eq_true_eq] at h2
    omega
  · obtain ⟨h1, h2⟩ := List.mem_filter.mp hl
    refine low_mem.mpr ⟨h1, ?_⟩
    rcases Nat.lt_or_ge (c a b) (c l.1 l.2) with q | q
    · have : l ∈ high c (c a b) T := List.mem_filter.mpr ⟨h1, decide_eq_true q⟩
      simp [this] at h2
    · exact q
end
end RC

/-! RqE: plain law: what joined_by gives; what shows asks. -/
namespace RC
open PySem.W (Datum DatumOrd Tup T3 minOf maxOf)
theorem join_fold {one : Row} : ∀ (ts : List Tie) (st : List Row × List Row),
    (∀ x, x ∈ st.1 → x ∈ (ts.foldl (joinStep one) st).1) ∧ (∀ x, x ∈ st.2 → x ∈ (ts.foldl (joinStep one) st).2) ∧ (∀ x, x ∈ (ts.foldl (joinStep one) st).1 → x ∈ st.1 ∨ x ∈ (ts.foldl (joinStep one) st).2) ∧
    (∀ x, x ∈ (ts.foldl (joinStep one) st).2 → x ∈ st.2 ∨ (x ∈ (ts.foldl (joinStep one) st).1 ∧ ∃ t, t ∈ ts ∧ ((t.1 = one ∧ t.2 = x) ∨ (t.2 = one ∧ t.1 = x)))) ∧
    (∀ t, t ∈ ts → (t.1 = one → t.2 ∈ (ts.foldl (joinStep one) st).1) ∧ (t.2 = one → t.1 ∈ (ts.foldl (joinStep one) st).1 ∨ t.1 = one))
  | [], st => ⟨fun _ h => h, fun _ h => h, fun _ h => .inl h, fun _ h => .inl h, fun _ h => nomatch h⟩
  | t :: ts, st => by
    rw [List.foldl_cons]
    obtain ⟨a1, a2, a3, a4, a5⟩ := join_fold (one := one) ts (joinStep one st t)
    generalize ts.foldl (joinStep one) (joinStep one st t) = r at a1 a2 a3 a4 a5
    have e : joinStep one st t = if one ∈ [t.1, t.2] ∧ (if t.1 = one then t.2 else t.1) ∉ st.1 then (st.1 ++ [if t.1 = one then t.2 else t.1], st.2 ++ [if t.1 = one then t.2 else t.1]) else st := rfl
    rw [e] at a1 a2 a3 a4
    by_cases hc : one ∈ [t.1, t.2] ∧ (if t.1 = one then t.2 else t.1) ∉ st.1
    · rw [if_pos hc] at a1 a2 a3 a4
      refine ⟨fun x h => a1 x (List.mem_append_left _ h), fun x h => a2 x (List.mem_append_left _ h), fun x h => ?_, fun x h => ?_, fun s hs => ?_⟩
      · rcases a3 x h with q | q
        · rcases List.mem_append.mp q with q | q
          · exact .inl q
          · exact .inr (a2 x (List.mem_append_right _ q))
        · exact .inr q
      · rcases a4 x h with q | ⟨q1, s, q2, q3⟩
        · rcases List.mem_append.mp q with q | q
          · exact .inl q
          · refine .inr ⟨a1 x (List.mem_append_right _ q), t, List.mem_cons_self, ?_⟩
            rw [List.mem_singleton] at q
            by_cases h1 : t.1 = one
            · rw [if_pos h1] at q
              exact .inl ⟨h1, q.symm⟩
            · rw [if_neg h1] at q
              refine .inr ⟨?_, q.symm⟩
              rcases List.mem_cons.mp hc.1 with z | z
              · exact absurd z.symm h1
              · exact (List.mem_singleton.mp z).symm
        · exact .inr ⟨q1, s, List.mem_cons_of_mem _ q2, q3⟩
      · rcases List.mem_cons.mp hs with rfl | hs
        · have hin := a1 _ (List.mem_append_right _ (List.mem_singleton.mpr rfl))
          refine ⟨fun h1 => ?_, fun h2 => ?_⟩
          · rw [if_pos h1] at hin
            exact hin
          · by_cases h1 : s.1 = one
            · exact .inr h1
            · rw [if_neg h1] at hin
              exact .inl hin
        · exact a5 s hs
    · rw [if_neg hc] at a1 a2 a3 a4
      refine ⟨a1, a2, a3, fun x h => (a4 x h).imp id fun ⟨q1, s, q2, q3⟩ => ⟨q1, s, List.mem_cons_of_mem _ q2, q3⟩, fun s hs => ?_⟩
      rcases List.mem_cons.mp hs with rfl | hs
      · refine ⟨fun h1 => ?_, fun h2 => ?_⟩
        · refine Classical.byContradiction fun hn => hc ⟨by simp [h1], ?_⟩
          rw [if_pos h1]
          exact fun hm => hn (a1 _ hm)
        · by_cases h1 : s.1 = one
          · exact .inr h1
          · refine .inl (Classical.byContradiction fun hn => hc ⟨by simp [h2], ?_⟩)
            rw [if_neg h1]
            exact fun hm => hn (a1 _ hm)
      · exact a5 s hs
theorem JRun.facts {ties : List Tie} {a : Row} {f m out : List Row} (h : JRun ties f m out) : (∀ x, x ∈ m → x ∈ f) → (∀ x, x ∈ f → Conn ties a x) → (∀ x, x ∈ f → x ∈ m ∨ ∀ t, t ∈ ties → (t.1 = x → t.2 ∈ f) ∧ (t.2 = x → t.1 ∈ f)) →
    (∀ x, x ∈ f → x ∈ out) ∧ (∀ x, x ∈ out → Conn ties a x) ∧ ∀ t, t ∈ ties → (t.1 ∈ out ↔ t.2 ∈ out) := by
  induction h with
  | done =>
    intro _ h2 h3
    refine ⟨fun _ h => h, h2, fun t ht => ⟨fun q => ?_, fun q => ?_⟩⟩
    · rcases h3 _ q with z | z
      · cases z
      · exact (z t ht).1 rfl
    · rcases h3 _ q with z | z
      · cases z
      · exact (z t ht).2 rfl
  | @turn f m out one _ ih =>
    intro h1 h2 h3
    obtain ⟨a1, a2, a3, a4, a5⟩ := join_fold (one := one) ties (f, m)
    have hone : one ∈ f := h1 one (by simp)
    have sub : ∀ x, x ∈ (ties.foldl (joinStep one) (f, m)).2 → x ∈ (ties.foldl (joinStep one) (f, m)).1 := fun x hx => by
      rcases a4 x hx with q | q
      · exact a1 x (h1 x (List.mem_append_left _ q))
      · exact q.1
    suffices h : _ ∧ _ from (fun ⟨b1, b2, b3⟩ => ⟨fun x hx => b1 x (a1 x hx), b2, b3⟩) (ih sub h.1 h.2)
    refine ⟨fun x hx => ?_, fun x hx => ?_⟩
    · rcases a3 x hx with q | q
      · exact h2 x q
      · rcases a4 x q with q | ⟨_, t, ht, ⟨e1, e2⟩ | ⟨e1, e2⟩⟩
        · exact h2 x (h1 x (List.mem_append_left _ q))
        · exact (h2 one hone).trans (e1 ▸ e2 ▸ Conn.one ht)
        · exact (h2 one hone).trans (e1 ▸ e2 ▸ (Conn.one ht).symm)
    · by_cases e : x = one
      · subst e
        refine .inr fun t ht => ⟨fun z => (a5 t ht).1 z, fun z => ?_⟩
        rcases (a5 t ht).2 z with q | q
        · exact q
        · rw [q]; exact a1 _ hone
      · rcases a3 x hx with q | q
        · rcases h3 x q with z | z
          · rcases List.mem_append.mp z with z | z
            · exact .inl (a2 x z)
            · exact absurd (List.mem_singleton.mp z) e
          · exact .inr fun t ht => ⟨fun w => a1 _ ((z t ht).1 w), fun w => a1 _ ((z t ht).2 w)⟩
        · exact .inl q
theorem joined_iff {ties : List Tie} {a b : Row} : b ∈ joinedM ties a ↔ Conn ties a b := by
  obtain ⟨h1, h2, h3⟩ := (joined_run ties a).1.facts (a := a) (fun x h => h) (fun x h => by rw [List.mem_singleton.mp h]; exact .refl _) (fun x h => .inl h)
  exact ⟨h2 b, fun h => (h.closed (S := fun x => x ∈ joinedM ties a) h3).mp (h1 a (by simp))⟩
theorem joined_nodup (ties : List Tie) (a : Row) : (joinedM ties a).Nodup := (joined_run ties a).2.1

/-! ### costs of pairs -/
def ct (pr : Row) (a b : Row) : Nat := (apartM a b pr).toNat
/-- rows of one width, prices of that width -/
structure Base (Dr : List Row) (w : Nat) (pr : Row) : Prop where
  asc : Sasc Dr
  ne : Dr ≠ []
  few : Dr.length ≤ 7
  wide : ∀ x, x ∈ Dr → x.items.length = w
  P : PrOk pr w
  w4 : w ≤ 4
theorem apart_nonneg {a b pr : Row} {w : Nat} (P : PrOk pr w) : 0 ≤ apartM a b pr := by
  unfold apartM
  have : ∀ l : List (Int × Int × Int), (∀ q, q ∈ l → 0 ≤ q.2.2) → 0 ≤ (l.map fun q => q.2.2).sum := by
    intro l
    induction l with
    | nil => intro _; simp
    | cons q l ih =>
      intro h
      have h1 := h q List.mem_cons_self
      have h2 := ih fun z hz => h z (List.mem_cons_of_mem _ hz)
      simp only [List.map_cons, List.sum_cons]
      omega
  refine this _ fun q hq => ?_
  have hm := (List.mem_filter.mp hq).1
  unfold zip3 at hm
  have h1 := (List.of_mem_zip (show (q.1, q.2) ∈ _ from hm)).2
  have h2 := (List.of_mem_zip (show (q.2.1, q.2.2) ∈ _ from h1)).2
  exact (P.ent _ h2).1
end RC

/-! RqF: plain law: what differs costs; what shows asks. -/
namespace RC
open PySem.W (Datum DatumOrd Tup T3 minOf maxOf)
def apartL : List Int → List Int → List Int → Int
  | x :: xs, y :: ys, p :: ps => (if x = y then 0 else p) + apartL xs ys ps
  | _, _, _ => 0
theorem apart_eq (a b p : Row) : apartM a b p = apartL a.items b.items p.items := by
  unfold apartM
  generalize a.items = xs
  generalize b.items = ys
  generalize p.items = ps
  induction xs generalizing ys ps with
  | nil => rfl
  | cons x xs ih =>
    cases ys with
    | nil => rfl
    | cons y ys =>
      cases ps with
      | nil => rfl
      | cons p ps =>
        have := ih ys ps
        unfold zip3 at this ⊢
        rw [List.zip_cons_cons, List.zip_cons_cons, List.filter_cons]
        simp only [apartL]
        by_cases h : x = y
        · rw [if_neg (by simp [h]), if_pos h, this, Int.zero_add]
        · rw [if_pos (by simp [h]), if_neg h, List.map_cons, List.sum_cons, this]
theorem apartL_symm : ∀ xs ys ps : List Int, apartL xs ys ps = apartL ys xs ps
  | [], [], _ => rfl
  | [], _ :: _, _ => rfl
  | _ :: _, [], _ => rfl
  | _ :: _, _ :: _, [] => rfl
  | x :: xs, y :: ys, p :: ps => by
    simp only [apartL]
    rw [apartL_symm xs ys ps]
    by_cases h : x = y
    · rw [if_pos h, if_pos h.symm]
    · rw [if_neg h, if_neg (Ne.symm h)]
theorem apartL_self : ∀ xs ps : List Int, apartL xs xs ps = 0
  | [], _ => rfl
  | _ :: _, [] => rfl
  | x :: xs, p :: ps => by simp only [apartL]; rw [apartL_self xs ps]; simp
theorem apartL_tri : ∀ xs ys zs ps : List Int, xs.length = ys.length → ys.length = zs.length → (∀ p, p ∈ ps → 0 ≤ p) → apartL xs zs ps ≤ apartL xs ys ps + apartL ys zs ps
  | [], [], [], _, _, _, _ => by simp [apartL]
  | _ :: _, _ :: _, _ :: _, [], _, _, _ => by simp [apartL]
  | x :: xs, y :: ys, z :: zs, p :: ps, h1, h2, h => by
    have ih := apartL_tri xs ys zs ps (by simpa using h1) (by simpa using h2) fun q hq => h q (List.mem_cons_of_mem _ hq)
    have hp := h p List.mem_cons_self
    simp only [apartL]
    by_cases e1 : x = y
    · subst e1
      rw [if_pos rfl]
      omega
    · rw [if_neg e1]
      by_cases e2 : y = z
      · subst e2
        rw [if_neg e1, if_pos rfl]
        omega
      · rw [if_neg e2]
        split <;> omega
theorem apartL_bd : ∀ xs ys ps : List Int, (∀ p, p ∈ ps → 0 ≤ p ∧ p ≤ 9) → 0 ≤ apartL xs ys ps ∧ apartL xs ys ps ≤ 9 * ps.length
  | [], _, ps, _ => by simp [apartL]; omega
  | _ :: _, [], ps, _ => by simp [apartL]; omega
  | _ :: _, _ :: _, [], _ => by simp [apartL]
  | x :: xs, y :: ys, p :: ps, h => by
    have ih := apartL_bd xs ys ps fun q hq => h q (List.mem_cons_of_mem _ hq)
    have hp := h p List.mem_cons_self
    simp only [apartL, List.length_cons]
    split <;> omega
section
variable {Dr : List Row} {w : Nat} {pr : Row}
theorem Base.ct (B : Base Dr w pr) (a b : Row) : apartM a b pr = (ct pr a b : Int) := by
  unfold RC.ct
  rw [Int.toNat_of_nonneg (by rw [apart_eq]; exact (apartL_bd _ _ _ B.P.ent).1)]
theorem ct_symm (pr a b : Row) : ct pr a b = ct pr b a := by unfold ct; rw [apart_eq, apart_eq, apartL_symm]
theorem ct_self (pr a : Row) : ct pr a a = 0 := by unfold ct; rw [apart_eq, apartL_self]; rfl
theorem Base.bd (B : Base Dr w pr) (a b : Row) : RC.ct pr a b ≤ 36 := by
  have h1 := B.ct a b
  have h2 := (apartL_bd a.items b.items pr.items B.P.ent).2
  rw [← apart_eq, B.P.len] at h2
  have := B.w4
  omega
theorem Base.tri (B : Base Dr w pr) {a b c : Row} (ha : a ∈ Dr) (hb : b ∈ Dr) (hc : c ∈ Dr) : RC.ct pr a c ≤ RC.ct pr a b + RC.ct pr b c := by
  have h := apartL_tri a.items b.items c.items pr.items (by rw [B.wide a ha, B.wide b hb]) (by rw [B.wide b hb, B.wide c hc]) fun p hp => (B.P.ent p hp).1
  rw [← apart_eq, ← apart_eq, ← apart_eq, B.ct, B.ct, B.ct] at h
  omega
theorem Base.worth (B : Base Dr w pr) (T : List Tie) : worthM T pr = (cost (RC.ct pr) T : Int) := by
  unfold worthM cost
  induction T with
  | nil => rfl
  | cons t T ih =>
    simp only [List.map_cons, List.sum_cons]
    rw [ih, B.ct]
    omega
theorem Base.nd (B : Base Dr w pr) : Dr.Nodup := B.asc.nodup
theorem Base.look (B : Base Dr w pr) {a b : Row} (ha : a ∈ Dr) (hb : b ∈ Dr) (h : a ≠ b) : lk (costsM Dr pr) (a, b) = (RC.ct pr a b : Int) := by
  unfold lk
  rw [costs_look B.nd ha hb h, Option.getD_some, B.ct]
theorem nodup_full {α : Type} [DecidableEq α] {l L : List α} (nd : l.Nodup) (sub : ∀ x, x ∈ l → x ∈ L) (h : L.length ≤ l.length) : ∀ x, x ∈ L → x ∈ l := fun x hx => Classical.byContradiction fun hn => by
  have := nodup_le (l := x :: l) (L := L) (List.nodup_cons.mpr ⟨hn, nd⟩) fun y hy => by
    rcases List.mem_cons.mp hy with rfl | hy
    · exact hx
    · exact sub y hy
  rw [List.length_cons] at this
  omega
/-- ties as the law has them: between rows, in order -/
def Ok (Dr : List Row) (T : List Tie) : Prop := ∀ t, t ∈ T → t.1 ∈ Dr ∧ t.2 ∈ Dr ∧ DatumOrd.lt t.1 t.2 = true
theorem conn_in {T : List Tie} (h : ∀ t, t ∈ T → t.1 ∈ Dr ∧ t.2 ∈ Dr) {a b : Row} (k : Conn T a b) (ha : a ∈ Dr) : b ∈ Dr :=
  (k.closed (S := fun x => x ∈ Dr) fun t ht => ⟨fun _ => (h t ht).2, fun _ => (h t ht).1⟩).mp ha
theorem joined_full {T : List Tie} (h : ∀ t, t ∈ T → t.1 ∈ Dr ∧ t.2 ∈ Dr) {d : Row} (hd : d ∈ Dr) (nd : Dr.Nodup) : (joinedM T d).length = Dr.length ↔ ∀ a b, a ∈ Dr → b ∈ Dr → Conn T a b := by
  constructor
  · intro e a b ha hb
    have hf := nodup_full (joined_nodup T d) (fun x hx => conn_in h (joined_iff.mp hx) hd) (Nat.le_of_eq e.symm)
    exact (joined_iff.mp (hf a ha)).symm.trans (joined_iff.mp (hf b hb))
  · intro k
    refine Nat.le_antisymm (nodup_le (joined_nodup T d) fun x hx => conn_in h (joined_iff.mp hx) hd) (nodup_le nd fun x hx => joined_iff.mpr (k d x hd hx))
theorem fair_iff (B : Base Dr w pr) {T : List Tie} (ok : Ok Dr T) {a b : Row} (ha : a ∈ Dr) (hb : b ∈ Dr) (hab : a ≠ b) : fairM T (costsM Dr pr) a b = true ↔ FairW (RC.ct pr) T a b := by
  unfold fairM wayM FairW
  rw [List.all_map, List.all_eq_true]
  constructor
  · intro h t ht hn
    have := h t (List.mem_filter.mpr ⟨ht, decide_eq_true fun hj => hn (joined_iff.mp hj)⟩)
    have o := ok t ht
    simp only [Function.comp_apply, id_eq, decide_eq_true_eq] at this
    rw [B.look ha hb hab, show t = (t.1, t.2) from rfl, B.look o.1 o.2.1 (lt_ne o.2.2)] at this
    omega
  · intro h t ht
    obtain ⟨h1, h2⟩ := List.mem_filter.mp ht
    have := h t h1 fun k => (of_decide_eq_true h2) (joined_iff.mpr k)
    have o := ok t h1
    simp only [Function.comp_apply, id_eq, decide_eq_true_eq]
    rw [B.look ha hb hab, show t = (t.1, t.2) from rfl, B.look o.1 o.2.1 (lt_ne o.2.2)]
    omega
theorem out2_in {α β γ : Type} {xs : List α} {ys : α → List β} {p : α → β → Bool} {f : α → β → γ} {z : γ} : z ∈ out2 xs ys p f ↔ ∃ x y, x ∈ xs ∧ y ∈ ys x ∧ p x y = true ∧ f x y = z := by
  unfold out2
  rw [List.mem_flatMap]
  constructor
  · rintro ⟨x, hx, h⟩
    obtain ⟨y, hy, rfl⟩ := List.mem_map.mp h
    obtain ⟨h1, h2⟩ := List.mem_filter.mp hy
    exact ⟨x, y, hx, h1, h2, rfl⟩
  · rintro ⟨x, y, hx, hy, hp, rfl⟩
    exact ⟨x, hx, List.mem_map.mpr ⟨y, List.mem_filter.mpr ⟨hy, hp⟩, rfl⟩⟩
theorem shows_iff (B : Base Dr w pr) {T : List Tie} : showsM T Dr pr = true ↔ Span Dr T ∧ Ok Dr T ∧ Fair (RC.ct pr) Dr T := by
  obtain ⟨d, rest, hD⟩ : ∃ d rest, Dr = d :: rest := by
    cases Dr with
    | nil => exact absurd rfl B.ne
    | cons d rest => exact ⟨d, rest, rfl⟩
  have hd : d ∈ Dr := by rw [hD]; exact List.mem_cons_self
  have hh : Dr.headD (Tup.mk []) = d := by rw [hD]; rfl
  have hok : (T.map fun t => isTieM Dr t).all id = true ↔ Ok Dr T := by
    rw [List.all_map, List.all_eq_true]
    unfold Ok isTieM
    constructor
    · intro h t ht
      have := h t ht
      simpa using this
    · intro h t ht
      have := h t ht
      simpa using this
  unfold showsM
  rw [hh]
  by_cases h1 : (T.length : Int) = (Dr.length : Int) - 1
  · by_cases h2 : Ok Dr T
    · have hn : ¬ (decide ((T.length : Int) ≠ (Dr.length : Int) - 1) || !((T.map fun t => isTieM Dr t).all id)) = true := by
        rw [hok.mpr h2]
        simp [h1]
      rw [if_neg hn]
      have mem : ∀ t, t ∈ T → t.1 ∈ Dr ∧ t.2 ∈ Dr := fun t ht => ⟨(h2 t ht).1, (h2 t ht).2.1⟩
      by_cases h3 : (joinedM T d).length = Dr.length
      · rw [if_neg (by simp [h3])]
        have S : Span Dr T := ⟨B.nd, B.ne, by omega, mem, (joined_full mem hd B.nd).mp h3⟩
        rw [List.all_eq_true]
        constructor
        · intro h
          refine ⟨S, h2, fun a b ha hb => ?_⟩
          have key : ∀ a b, a ∈ Dr → b ∈ Dr → DatumOrd.lt a b = true → Conn (low (RC.ct pr) (RC.ct pr a b) T) a b := fun a b ha hb hl =>
            S.fair_of_way ha hb ((fair_iff B h2 ha hb (lt_ne hl)).mp (h _ (out2_in.mpr ⟨a, b, ha, hb, hl, rfl⟩)))
          by_cases e : a = b
          · rw [e]; exact .refl _
          · rcases Lin.tri a b e with q | q
            · exact key a b ha hb q
            · rw [ct_symm]; exact (key b a hb ha q).symm
        · rintro ⟨_, _, F⟩ z hz
          obtain ⟨a, b, ha, hb, hl, rfl⟩ := out2_in.mp hz
          exact (fair_iff B h2 ha hb (lt_ne hl)).mpr (Fair.way (F a b ha hb))
      · rw [if_pos (by simpa using fun e : ((joinedM T d).length : Int) = (Dr.length : Int) => h3 (by omega))]
        refine ⟨fun h => (by cases h), fun ⟨S, _⟩ => absurd ((joined_full mem hd B.nd).mpr S.all) h3⟩
    · rw [if_pos (by rw [Bool.eq_false_iff.mpr fun q => h2 (hok.mp q)]; simp)]
      exact ⟨fun h => (by cases h), fun ⟨_, o, _⟩ => absurd o h2⟩
  · rw [if_pos (by simp [h1])]
    refine ⟨fun h => (by cases h), fun ⟨S, _⟩ => ?_⟩
    have := S.len
    omega
end
end RC

/-! RqG: plain law: the program's own tree is fair. -/
namespace RC
open PySem.W (Datum DatumOrd Tup T3 minOf maxOf)
section
variable {Dr : List Row} {w : Nat} {pr : Row}
theorem comp_new {V : List Row} {f : List Tie} {e : Tie} (h1 : e.1 ∈ V) (h2 : e.2 ∈ V) (h : ¬ Conn f e.1 e.2) : comp (f ++ [e]) V + 1 = comp f V := by
  have hc : comp (f ++ [e]) V = comp (e :: f) V := comp_congr (fun a b => ⟨fun k => k.mono fun t ht => by simpa [or_comm] using ht, fun k => k.mono fun t ht => by simpa [or_comm] using ht⟩) V
  have h3 := (comp_edge (T := f) e V).1
  have h4 := comp_le (T := f) (T' := e :: f) (fun a b k => k.mono fun t => List.mem_cons_of_mem _) V
  have h5 : comp (e :: f) V ≠ comp f V := fun q => h (h4.2 q e.1 e.2 h1 h2 (.one List.mem_cons_self))
  omega
theorem kr_fold (pr : Row) : ∀ (qs : List (T3 Int Row Row)) (f : List Tie), qs.Pairwise (fun p q => ct pr p.b p.c ≤ ct pr q.b q.c) → (∀ t, t ∈ f → ∀ q, q ∈ qs → ct pr t.1 t.2 ≤ ct pr q.b q.c) → (∀ q, q ∈ qs → q.b ∈ Dr ∧ q.c ∈ Dr) → comp f Dr + f.length = Dr.length →
    comp (qs.foldl krStep f) Dr + (qs.foldl krStep f).length = Dr.length ∧ (∀ t, t ∈ f → t ∈ qs.foldl krStep f) ∧ ∀ q, q ∈ qs → Conn (low (ct pr) (ct pr q.b q.c) (qs.foldl krStep f)) q.b q.c
  | [], f, _, _, _, h => ⟨h, fun _ h => h, fun _ h => nomatch h⟩
  | q :: qs, f, ho, hf, hm, h => by
    have ho' := List.pairwise_cons.mp ho
    have hq := hm q List.mem_cons_self
    rw [List.foldl_cons]
    by_cases hj : q.c ∈ joinedM f q.b
    · have e : krStep f q = f := by unfold krStep; rw [if_neg (by simpa using hj)]
      rw [e]
      obtain ⟨i1, i2, i3⟩ := kr_fold pr qs f ho'.2 (fun t ht p hp => hf t ht p (List.mem_cons_of_mem _ hp)) (fun p hp => hm p (List.mem_cons_of_mem _ hp)) h
      refine ⟨i1, i2, fun p hp => ?_⟩
      rcases List.mem_cons.mp hp with rfl | hp
      · exact (joined_iff.mp hj).mono fun t ht => low_mem.mpr ⟨i2 t ht, hf t ht p List.mem_cons_self⟩
      · exact i3 p hp
    · have e : krStep f q = f ++ [(q.b, q.c)] := by unfold krStep; rw [if_pos (by simpa using hj)]
      rw [e]
      have hc := comp_new (f := f) (e := (q.b, q.c)) hq.1 hq.2 fun k => hj (joined_iff.mpr k)
      obtain ⟨i1, i2, i3⟩ := kr_fold pr qs (f ++ [(q.b, q.c)]) ho'.2 (fun t ht p hp => by
        rcases List.mem_append.mp ht with ht | ht
        · exact hf t ht p (List.mem_cons_of_mem _ hp)
        · rw [List.mem_singleton.mp ht]
          exact ho'.1 p hp) (fun p hp => hm p (List.mem_cons_of_mem _ hp)) (by rw [List.length_append, List.length_singleton]; omega)
      refine ⟨i1, fun t ht => i2 t (List.mem_append_left _ ht), fun p hp => ?_⟩
      rcases List.mem_cons.mp hp with rfl | hp
      · exact .one (e := (p.b, p.c)) (low_mem.mpr ⟨i2 _ (by simp), Nat.le_refl _⟩)
      · exact i3 p hp
theorem tree_ok (B : Base Dr w pr) : Span Dr (treeM Dr pr) ∧ Ok Dr (treeM Dr pr) ∧ Fair (ct pr) Dr (treeM Dr pr) := by
  have ok : Ok Dr (treeM Dr pr) := fun t ht => treeM_mem ht
  have cost : ∀ q, q ∈ krPairs Dr (costsM Dr pr) → q.b ∈ Dr ∧ q.c ∈ Dr ∧ DatumOrd.lt q.b q.c = true ∧ q.a = (ct pr q.b q.c : Int) := fun q hq => by
    obtain ⟨h1, h2, h3, h4⟩ := krPairs_mem.mp hq
    exact ⟨h1, h2, h3, by rw [h4, B.look h1 h2 (lt_ne h3)]⟩
  have srt : (krPairs Dr (costsM Dr pr)).Pairwise fun p q => ct pr p.b p.c ≤ ct pr q.b q.c := by
    have := sortD_asc (out2 Dr (fun _ => Dr) (fun a b => DatumOrd.lt a b) fun a b => T3.mk (lk (costsM Dr pr) (a, b)) a b)
    refine List.Pairwise.imp_of_mem (fun {p q} hp hq h => ?_) this
    have hp' := (cost p hp).2.2.2
    have hq' := (cost q hq).2.2.2
    rw [lt_t3] at h
    by_cases e : q.a = p.a
    · omega
    · rw [if_neg e] at h
      have h2 : ¬ q.a < p.a := by simpa [DatumOrd.lt] using h
      omega
  obtain ⟨h1, _, h3⟩ := kr_fold (Dr := Dr) pr (krPairs Dr (costsM Dr pr)) [] srt (fun _ h => nomatch h) (fun q hq => ⟨(cost q hq).1, (cost q hq).2.1⟩) (by rw [comp_none B.nd]; rfl)
  have same : ∀ t, t ∈ (krPairs Dr (costsM Dr pr)).foldl krStep [] ↔ t ∈ treeM Dr pr := fun t => sortD_mem.symm
  have len : (treeM Dr pr).length = ((krPairs Dr (costsM Dr pr)).foldl krStep []).length := sortD_len _
  have fair : Fair (ct pr) Dr (treeM Dr pr) := by
    have key : ∀ a b, a ∈ Dr → b ∈ Dr → DatumOrd.lt a b = true → Conn (low (ct pr) (ct pr a b) (treeM Dr pr)) a b := fun a b ha hb hl => by
      have := h3 (T3.mk (lk (costsM Dr pr) (a, b)) a b) (krPairs_mem.mpr ⟨ha, hb, hl, rfl⟩)
      exact this.mono fun t ht => by
        have := low_mem.mp ht
        exact low_mem.mpr ⟨(same t).mp this.1, this.2⟩
    intro a b ha hb
    by_cases e : a = b
    · rw [e]; exact .refl _
    · rcases Lin.tri a b e with q | q
      · exact key a b ha hb q
      · rw [ct_symm]; exact (key b a hb ha q).symm
  have all : ∀ a b, a ∈ Dr → b ∈ Dr → Conn (treeM Dr pr) a b := fun a b ha hb => (fair a b ha hb).mono fun t ht => (low_mem.mp ht).1
  have one : comp ((krPairs Dr (costsM Dr pr)).foldl krStep []) Dr = 1 := comp_one B.ne fun a b ha hb => (all a b ha hb).mono fun t ht => (same t).mpr ht
  exact ⟨⟨B.nd, B.ne, by omega, fun t ht => ⟨(ok t ht).1, (ok t ht).2.1⟩, all⟩, ok, fair⟩
end
end RC

/-! RqH: plain law: the law's own tree grows and is fair. -/
namespace RC
open PySem.W (Datum DatumOrd Tup T3 minOf maxOf)
section
variable {Dr : List Row} {w : Nat} {pr : Row}
theorem ordM_cases {u v : Row} (h : u ≠ v) : (ordM u v = (u, v) ∧ DatumOrd.lt u v = true) ∨ (ordM u v = (v, u) ∧ DatumOrd.lt v u = true) := by
  unfold ordM
  rcases Lin.tri u v h with q | q
  · rw [q, lt_asym q]; exact .inl ⟨rfl, rfl⟩
  · rw [q, lt_asym q]; exact .inr ⟨rfl, rfl⟩
theorem ordM_conn {T : List Tie} {u v : Row} (h : u ≠ v) (m : ordM u v ∈ T) : Conn T u v := by
  rcases ordM_cases h with ⟨e, _⟩ | ⟨e, _⟩
  · rw [e] at m; exact .one m
  · rw [e] at m; exact (Conn.one m).symm
theorem ordM_ct {u v : Row} (h : u ≠ v) (pr : Row) : ct pr (ordM u v).1 (ordM u v).2 = ct pr u v := by
  rcases ordM_cases h with ⟨e, _⟩ | ⟨e, _⟩
  · rw [e]
  · rw [e, ct_symm]
structure PInv (Dr : List Row) (pr : Row) (J : List Row) (F : List Tie) : Prop where
  nd : J.Nodup
  sub : ∀ x, x ∈ J → x ∈ Dr
  ne : J ≠ []
  len : F.length + 1 = J.length
  mem : ∀ t, t ∈ F → t.1 ∈ J ∧ t.2 ∈ J ∧ DatumOrd.lt t.1 t.2 = true
  fair : ∀ a b, a ∈ J → b ∈ J → Conn (low (ct pr) (ct pr a b) F) a b
  act : ∀ y a b, a ∈ J → b ∈ J → (∃ v, v ∈ Dr ∧ v ∉ J ∧ ct pr a v ≤ y) → (∃ v, v ∈ Dr ∧ v ∉ J ∧ ct pr b v ≤ y) → Conn (low (ct pr) y F) a b
theorem PInv.turn {J : List Row} {F : List Tie} (I : PInv Dr pr J F) {u v : Row} (hu : u ∈ J) (hv : v ∈ Dr) (hn : v ∉ J) (least : ∀ a x, a ∈ J → x ∈ Dr → x ∉ J → ct pr u v ≤ ct pr a x) : PInv Dr pr (J ++ [v]) (F ++ [ordM u v]) := by
  have ne : u ≠ v := fun e => hn (e ▸ hu)
  have up : ∀ {y : Nat} {a b : Row}, Conn (low (ct pr) y F) a b → Conn (low (ct pr) y (F ++ [ordM u v])) a b := fun k => k.mono fun t ht => by
    have := low_mem.mp ht
    exact low_mem.mpr ⟨List.mem_append_left _ this.1, this.2⟩
  have new : ∀ {y : Nat}, ct pr u v ≤ y → Conn (low (ct pr) y (F ++ [ordM u v])) u v := fun {y} h => ordM_conn ne (low_mem.mpr ⟨by simp, by rw [ordM_ct ne]; exact h⟩)
  -- from any place with a way out of y, the new place is reached within y
  have key : ∀ {y : Nat} {a : Row}, a ∈ J → (∃ x, x ∈ Dr ∧ x ∉ J ∧ ct pr a x ≤ y) → Conn (low (ct pr) y (F ++ [ordM u v])) a v := fun {y a} ha ⟨x, h1, h2, h3⟩ => by
    have h4 := Nat.le_trans (least a x ha h1 h2) h3
    exact (up (I.act y a u ha hu ⟨x, h1, h2, h3⟩ ⟨v, hv, hn, h4⟩)).trans (new h4)
  have out : ∀ {x : Row}, x ∉ J ++ [v] → x ∉ J := fun h m => h (List.mem_append_left _ m)
  refine ⟨List.nodup_append.mpr ⟨I.nd, by simp, fun a ha b hb e => ?_⟩, fun x hx => ?_, by simp, by have := I.len; simp; omega, fun t ht => ?_, fun a b ha hb => ?_, fun y a b ha hb h1 h2 => ?_⟩
  · rw [List.mem_singleton.mp hb] at e
    exact hn (e ▸ ha)
  · rcases List.mem_append.mp hx with hx | hx
    · exact I.sub x hx
    · rw [List.mem_singleton.mp hx]; exact hv
  · rcases List.mem_append.mp ht with ht | ht
    · have := I.mem t ht
      exact ⟨List.mem_append_left _ this.1, List.mem_append_left _ this.2.1, this.2.2⟩
    · rw [List.mem_singleton.mp ht]
      have m1 : u ∈ J ++ [v] := List.mem_append_left _ hu
      have m2 : v ∈ J ++ [v] := by simp
      rcases ordM_cases ne with ⟨e, q⟩ | ⟨e, q⟩
      · rw [e]; exact ⟨m1, m2, q⟩
      · rw [e]; exact ⟨m2, m1, q⟩
  · rcases List.mem_append.mp ha with ha | ha
    · rcases List.mem_append.mp hb with hb | hb
      · exact up (I.fair a b ha hb)
      · rw [List.mem_singleton.mp hb]
        exact key ha ⟨v, hv, hn, Nat.le_refl _⟩
    · rw [List.mem_singleton.mp ha]
      rcases List.mem_append.mp hb with hb | hb
      · rw [ct_symm]
        exact (key hb ⟨v, hv, hn, Nat.le_refl _⟩).symm
      · rw [List.mem_singleton.mp hb]; exact .refl _
  · have h1' : ∀ {a : Row}, (∃ x, x ∈ Dr ∧ x ∉ J ++ [v] ∧ ct pr a x ≤ y) → ∃ x, x ∈ Dr ∧ x ∉ J ∧ ct pr a x ≤ y := fun ⟨x, p, q, r⟩ => ⟨x, p, out q, r⟩
    rcases List.mem_append.mp ha with ha | ha
    · rcases List.mem_append.mp hb with hb | hb
      · exact up (I.act y a b ha hb (h1' h1) (h1' h2))
      · rw [List.mem_singleton.mp hb]
        exact key ha (h1' h1)
    · rw [List.mem_singleton.mp ha]
      rcases List.mem_append.mp hb with hb | hb
      · exact (key hb (h1' h2)).symm
      · rw [List.mem_singleton.mp hb]; exact .refl _
theorem grow (B : Base Dr w pr) : ∀ (n : Nat) (J : List Row) (F : List Tie), Dr.length - J.length = n → PInv Dr pr J F → ∃ out, GRun Dr pr J F out ∧ Span Dr out ∧ Ok Dr out ∧ Fair (ct pr) Dr out := by
  intro n
  induction n with
  | zero =>
    intro J F hn I
    have full := nodup_full I.nd I.sub (by omega)
    have le := nodup_le I.nd I.sub
    have len := I.len
    exact ⟨F, .done (by omega), ⟨B.nd, B.ne, by omega, fun t ht => ⟨I.sub _ (I.mem t ht).1, I.sub _ (I.mem t ht).2.1⟩, fun a b ha hb => (I.fair a b (full a ha) (full b hb)).mono fun t ht => (low_mem.mp ht).1⟩,
      fun t ht => ⟨I.sub _ (I.mem t ht).1, I.sub _ (I.mem t ht).2.1, (I.mem t ht).2.2⟩, fun a b ha hb => I.fair a b (full a ha) (full b hb)⟩
  | succ n ih =>
    intro J F hn I
    have hlt : J.length < Dr.length := by omega
    obtain ⟨x, hx, hxJ⟩ : ∃ x, x ∈ Dr ∧ x ∉ J := Classical.byContradiction fun h => by
      have := nodup_le B.nd (L := J) fun x hx => Classical.byContradiction fun hn => h ⟨x, hx, hn⟩
      omega
    obtain ⟨j, hj⟩ : ∃ j, j ∈ J := by
      have := I.ne
      cases J with
      | nil => exact absurd rfl this
      | cons j J => exact ⟨j, List.mem_cons_self⟩
    have hq : T3.mk (apartM j x pr) j x ∈ waysM Dr pr J := ways_mem.mpr ⟨hj, hx, hxJ, rfl⟩
    cases hw : waysM Dr pr J with
    | nil => rw [hw] at hq; cases hq
    | cons q qs =>
      have hmin : minOf q qs ∈ waysM Dr pr J := by rw [hw]; exact minOf_mem q qs
      obtain ⟨m1, m2, m3, m4⟩ := ways_mem.mp hmin
      have I' : PInv Dr pr (J ++ [(minOf q qs).c]) (F ++ [ordM (minOf q qs).b (minOf q qs).c]) := I.turn m1 m2 m3 fun a y ha hy hyJ => by
        have h1 := minOf_le q qs (T3.mk (apartM a y pr) a y) (by rw [← hw]; exact ways_mem.mpr ⟨ha, hy, hyJ, rfl⟩)
        rw [lt_t3] at h1
        have h2 := B.ct (minOf q qs).b (minOf q qs).c
        have h3 := B.ct a y
        rw [← m4] at h2
        by_cases e : apartM a y pr = (minOf q qs).a
        · omega
        · rw [if_neg e] at h1
          have h4 : ¬ apartM a y pr < (minOf q qs).a := by simpa [DatumOrd.lt] using h1
          omega
      obtain ⟨out, h1, h2⟩ := ih _ _ (by rw [List.length_append, List.length_singleton]; omega) I'
      exact ⟨out, .turn hlt hw h1, h2⟩
theorem grown_ok (B : Base Dr w pr) : ∃ out, GRun Dr pr (Dr.take 1) [] out ∧ Span Dr out ∧ Ok Dr out ∧ Fair (ct pr) Dr out := by
  cases hD : Dr with
  | nil => exact absurd hD B.ne
  | cons d rest =>
    rw [← hD]
    have hd : d ∈ Dr := by rw [hD]; exact List.mem_cons_self
    have e : Dr.take 1 = [d] := by rw [hD]; rfl
    rw [e]
    refine grow B _ [d] [] rfl ⟨by simp, fun x hx => by rw [List.mem_singleton.mp hx]; exact hd, by simp, rfl, fun _ h => (nomatch h), fun a b ha hb => ?_, fun y a b ha hb _ _ => ?_⟩
    · rw [List.mem_singleton.mp ha, List.mem_singleton.mp hb]; exact .refl _
    · rw [List.mem_singleton.mp ha, List.mem_singleton.mp hb]; exact .refl _
/-- another list of the same ties -/
theorem Span.same {V : List Row} {T T' : List Tie} (S : Span V T) (hl : T'.length = T.length) (hm : ∀ t, t ∈ T' ↔ t ∈ T) : Span V T' :=
  ⟨S.nd, S.ne, by rw [hl]; exact S.len, fun t ht => S.mem t ((hm t).mp ht), fun a b ha hb => (S.all a b ha hb).mono fun t ht => (hm t).mpr ht⟩
theorem Ok.same {T T' : List Tie} (o : Ok Dr T) (hm : ∀ t, t ∈ T' ↔ t ∈ T) : Ok Dr T' := fun t ht => o t ((hm t).mp ht)
theorem Fair.same {V : List Row} {c : Row → Row → Nat} {T T' : List Tie} (F : Fair c V T) (hm : ∀ t, t ∈ T' ↔ t ∈ T) : Fair c V T' := fun a b ha hb => (F a b ha hb).mono fun t ht => by
  have := low_mem.mp ht
  exact low_mem.mpr ⟨(hm t).mpr this.1, this.2⟩
theorem cost_perm {c : Row → Row → Nat} {T T' : List Tie} (h : T.Perm T') : cost c T = cost c T' := (h.map _).sum_nat
end
end RC

/-! RqI: plain law: ways along, stars, rings, what is wrong. -/
namespace RC
open PySem.W (Datum DatumOrd Tup T3 minOf maxOf)
section
variable {Dr : List Row} {w : Nat} {pr : Row}
theorem path_cons (a b : Row) (l : List Row) : pathM (a :: b :: l) = (a, b) :: pathM (b :: l) := rfl
theorem path_facts : ∀ (a : Row) (l : List Row), (pathM (a :: l)).length + 1 = (a :: l).length ∧ (∀ t, t ∈ pathM (a :: l) → t.1 ∈ a :: l ∧ t.2 ∈ a :: l) ∧ ∀ x, x ∈ a :: l → Conn (pathM (a :: l)) a x
  | a, [] => ⟨rfl, fun t h => (nomatch h), fun x h => by rw [List.mem_singleton.mp h]; exact .refl _⟩
  | a, b :: l => by
    obtain ⟨h1, h2, h3⟩ := path_facts b l
    rw [path_cons]
    refine ⟨by simp only [List.length_cons] at *; omega, fun t ht => ?_, fun x hx => ?_⟩
    · rcases List.mem_cons.mp ht with rfl | ht
      · simp
      · have := h2 t ht
        exact ⟨List.mem_cons_of_mem _ this.1, List.mem_cons_of_mem _ this.2⟩
    · rcases List.mem_cons.mp hx with rfl | hx
      · exact .refl _
      · exact (Conn.one (e := (a, b)) List.mem_cons_self).trans ((h3 x hx).mono fun t => List.mem_cons_of_mem _)
/-- a way through all is a tree -/
theorem path_span {V p : List Row} (nd : V.Nodup) (ne : V ≠ []) (len : p.length = V.length) (mem : ∀ x, x ∈ p ↔ x ∈ V) : Span V (pathM p) := by
  cases p with
  | nil => exact absurd (List.eq_nil_of_length_eq_zero len.symm) ne
  | cons a l =>
    obtain ⟨h1, h2, h3⟩ := path_facts a l
    exact ⟨nd, ne, by rw [h1, len], fun t ht => ⟨(mem _).mp (h2 t ht).1, (mem _).mp (h2 t ht).2⟩, fun x y hx hy => (h3 x ((mem x).mpr hx)).symm.trans (h3 y ((mem y).mpr hy))⟩
theorem path_lt : ∀ {l : List Row}, Sasc l → ∀ t, t ∈ pathM l → DatumOrd.lt t.1 t.2 = true
  | [], _, t, h => nomatch h
  | [_], _, t, h => nomatch h
  | a :: b :: l, h, t, ht => by
    have h' := List.pairwise_cons.mp h
    rw [path_cons] at ht
    rcases List.mem_cons.mp ht with rfl | ht
    · exact h'.1 b List.mem_cons_self
    · exact path_lt h'.2 t ht
theorem path_ok (B : Base Dr w pr) : Span Dr (pathM Dr) ∧ Ok Dr (pathM Dr) :=
  ⟨path_span B.nd B.ne rfl fun x => Iff.rfl, fun t ht => ⟨(path_mem ht).1, (path_mem ht).2, path_lt B.asc t ht⟩⟩
theorem filter_one {α : Type} [DecidableEq α] {f : α} : ∀ {l : List α}, l.Nodup → f ∈ l → (l.filter fun x => decide (x ≠ f)).length + 1 = l.length
  | [], _, h => nomatch h
  | x :: l, nd, h => by
    have nd' := List.nodup_cons.mp nd
    rw [List.filter_cons]
    by_cases e : x = f
    · subst e
      rw [if_neg (by simp), List.length_cons, (List.filter_eq_self.mpr fun y hy => decide_eq_true fun (e : y = x) => nd'.1 (e ▸ hy) : l.filter (fun y => decide (y ≠ x)) = l)]
    · rw [if_pos (by simpa using e), List.length_cons, List.length_cons, filter_one nd'.2 (by
        rcases List.mem_cons.mp h with q | q
        · exact absurd q.symm e
        · exact q)]
theorem star_ok (B : Base Dr w pr) {far : Row} (hf : far ∈ Dr) : Span Dr (starM far Dr) ∧ Ok Dr (starM far Dr) := by
  have ok : Ok Dr (starM far Dr) := fun t ht => by
    obtain ⟨x, hx, rfl⟩ := List.mem_map.mp ht
    obtain ⟨h1, h2⟩ := List.mem_filter.mp hx
    have ne : far ≠ x := fun e => by simp [e] at h2
    rcases ordM_cases ne with ⟨e, q⟩ | ⟨e, q⟩
    · rw [e]; exact ⟨hf, h1, q⟩
    · rw [e]; exact ⟨h1, hf, q⟩
  have reach : ∀ x, x ∈ Dr → Conn (starM far Dr) far x := fun x hx => by
    by_cases e : far = x
    · rw [e]; exact .refl _
    · exact ordM_conn e (List.mem_map.mpr ⟨x, List.mem_filter.mpr ⟨hx, decide_eq_true (Ne.symm e)⟩, rfl⟩)
  refine ⟨⟨B.nd, B.ne, ?_, fun t ht => ⟨(ok t ht).1, (ok t ht).2.1⟩, fun a b ha hb => (reach a ha).symm.trans (reach b hb)⟩, ok⟩
  unfold starM
  rw [List.length_map]
  exact filter_one B.nd hf

/-! ### the law's own joining -/
theorem lj_pass : ∀ (ts : List Tie) (f : List Row), (∀ t, t ∈ ts → t.1 ∈ Dr ∧ t.2 ∈ Dr) → f.Nodup → (∀ x, x ∈ f → x ∈ Dr) →
    (ts.foldl ljStep f).Nodup ∧ (∀ x, x ∈ ts.foldl ljStep f → x ∈ Dr) ∧ (∀ x, x ∈ f → x ∈ ts.foldl ljStep f) ∧ f.length ≤ (ts.foldl ljStep f).length ∧ ((ts.foldl ljStep f).length = f.length → ∀ t, t ∈ ts → (t.1 ∈ f ↔ t.2 ∈ f))
  | [], f, _, nd, sub => ⟨nd, sub, fun _ h => h, Nat.le_refl _, fun _ _ h => nomatch h⟩
  | t :: ts, f, h, nd, sub => by
    rw [List.foldl_cons]
    have ht := h t List.mem_cons_self
    have step : (ljStep f t).Nodup ∧ (∀ x, x ∈ ljStep f t → x ∈ Dr) ∧ (∀ x, x ∈ f → x ∈ ljStep f t) ∧ ((ljStep f t = f ∧ (t.1 ∈ f ↔ t.2 ∈ f)) ∨ f.length < (ljStep f t).length) := by
      unfold ljStep
      by_cases hc : decide (t.1 ∈ f) ≠ decide (t.2 ∈ f)
      · rw [if_pos hc]
        refine ⟨List.nodup_append.mpr ⟨nd, by simp, fun a ha b hb e => ?_⟩, fun x hx => ?_, fun x hx => List.mem_append_left _ hx, .inr (by simp)⟩
        · rw [List.mem_singleton.mp hb] at e
          by_cases h1 : t.1 ∈ f
          · rw [if_pos h1] at e
            exact hc (by rw [decide_eq_true h1, decide_eq_true (e ▸ ha)])
          · rw [if_neg h1] at e
            exact h1 (e ▸ ha)
        · rcases List.mem_append.mp hx with hx | hx
          · exact sub x hx
          · rw [List.mem_singleton.mp hx]
            split
            · exact ht.2
            · exact ht.1
      · rw [if_neg hc]
        refine ⟨nd, sub, fun _ h => h, .inl ⟨rfl, ?_⟩⟩
        have hc' : decide (t.1 ∈ f) = decide (t.2 ∈ f) := Classical.byContradiction hc
        exact decide_eq_decide.mp hc'
    obtain ⟨s1, s2, s3, s4⟩ := step
    obtain ⟨i1, i2, i3, i4, i5⟩ := lj_pass ts (ljStep f t) (fun s hs => h s (List.mem_cons_of_mem _ hs)) s1 s2
    refine ⟨i1, i2, fun x hx => i3 x (s3 x hx), ?_, fun e s hs => ?_⟩
    · rcases s4 with ⟨e, _⟩ | q
      · rw [e] at i4 ⊢; exact i4
      · omega
    · rcases s4 with ⟨e2, q2⟩ | q
      · rw [e2] at i5 e
        rcases List.mem_cons.mp hs with rfl | hs
        · exact q2
        · exact i5 e s hs
      · omega
theorem lj_all {T : List Tie} (S : Span Dr T) : ∀ (rows f : List Row), f.Nodup → (∀ x, x ∈ f → x ∈ Dr) → f ≠ [] →
    (rows.foldl (fun f _ => T.foldl ljStep f) f).length ≤ Dr.length ∧ min Dr.length (f.length + rows.length) ≤ (rows.foldl (fun f _ => T.foldl ljStep f) f).length
  | [], f, nd, sub, ne => ⟨nodup_le nd sub, Nat.min_le_right _ _⟩
  | r :: rows, f, nd, sub, ne => by
    rw [List.foldl_cons]
    obtain ⟨h1, h2, h3, h4, h5⟩ := lj_pass T f S.mem nd sub
    have ne' : T.foldl ljStep f ≠ [] := fun e => ne (List.eq_nil_of_length_eq_zero (by rw [e, List.length_nil] at h4; omega))
    obtain ⟨i1, i2⟩ := lj_all S rows (T.foldl ljStep f) h1 h2 ne'
    refine ⟨i1, ?_⟩
    rw [List.length_cons]
    by_cases e : (T.foldl ljStep f).length = f.length
    · have full : ∀ x, x ∈ Dr → x ∈ f := fun x hx => by
        cases f with
        | nil => exact absurd rfl ne
        | cons a f => exact ((S.all a x (sub a List.mem_cons_self) hx).closed (S := fun z => z ∈ a :: f) (h5 e)).mp List.mem_cons_self
      have := nodup_le S.nd full
      omega
    · omega
theorem lj_len {T : List Tie} (S : Span Dr T) : (ljM Dr T).length = Dr.length := by
  unfold ljM
  have hl : 1 ≤ Dr.length := List.length_pos_iff.mpr S.ne
  have h0 : (Dr.take 1).length = 1 := by rw [List.length_take]; omega
  obtain ⟨h1, h2⟩ := lj_all S Dr (Dr.take 1) (S.nd.sublist (List.take_sublist _ _)) (fun x hx => List.mem_of_mem_take hx) fun e => by rw [e] at h0; cases h0
  omega

/-! ### the ring -/
theorem ring_no (B : Base Dr w pr) (h : 3 < Dr.length) : showsM (ringM Dr) Dr pr = false := by
  refine Bool.eq_false_iff.mpr fun hs => ?_
  obtain ⟨S, _, _⟩ := (shows_iff B).mp hs
  have nd := B.nd
  clear hs B
  match Dr, h with
  | a :: b :: c :: d :: l, _ =>
    have k := S.all a d (by simp) (by simp)
    have := (k.closed (S := fun x => x = a ∨ x = b ∨ x = c) fun t ht => ?_).mp (.inl rfl)
    · simp only [List.nodup_cons, List.mem_cons, not_or] at nd
      rcases this with e | e | e
      · exact nd.1.2.2.1 e.symm
      · exact nd.2.1.2.1 e.symm
      · exact nd.2.2.1.1 e.symm
    · have er : ringM (a :: b :: c :: d :: l) = [(a, b), (a, c), (b, c)] ++ (d :: l).zip l := rfl
      rw [er] at ht
      rcases List.mem_append.mp ht with ht | ht
      · simp only [List.mem_cons, List.not_mem_nil, or_false] at ht
        rcases ht with rfl | rfl | rfl <;> simp
      · have hz := List.of_mem_zip (show (t.1, t.2) ∈ (d :: l).zip l from ht)
        have out : ∀ x, x ∈ d :: l → ¬ (x = a ∨ x = b ∨ x = c) := fun x hx q => by
          simp only [List.nodup_cons, List.mem_cons, not_or] at nd
          have hx' := List.mem_cons.mp hx
          rcases q with rfl | rfl | rfl
          · exact hx'.elim nd.1.2.2.1 nd.1.2.2.2
          · exact hx'.elim nd.2.1.2.1 nd.2.1.2.2
          · exact hx'.elim nd.2.2.1.1 nd.2.2.1.2
        exact ⟨fun q => absurd q (out _ hz.1), fun q => absurd q (out _ (List.mem_cons_of_mem _ hz.2))⟩

/-! ### what the bounds' check asks -/
theorem br_ok (B : Base Dr w pr) {rowsH rowsT : List Row} {sc : List Int} {out found : List Tie} (T : TabOk rowsT Dr w) (few : rowsH.length ≤ 1000) (S : Span Dr out) (ok : Ok Dr out) (F : Fair (ct pr) Dr out) (S2 : Span Dr found) (ok2 : Ok Dr found) :
    BrOk sc w rowsH rowsT Dr pr out found (worthM out pr) := by
  have pos : 0 < Dr.length := List.length_pos_iff.mpr B.ne
  obtain ⟨fl1, _⟩ := far_lt sc pos
  have hfar : farM sc Dr ∈ Dr := getD_mem fl1
  have hd0 : d0M Dr ∈ Dr := getD_mem pos
  have len := S.len
  have len2 := S2.len
  have few7 := B.few
  have nlen : ∀ {b : List Tie}, b.length + 1 ≠ Dr.length → showsM b Dr pr = false ∧ b ≠ found := fun {b} h => ⟨Bool.eq_false_iff.mpr fun hs => h ((shows_iff B).mp hs).1.len, fun e => h (by rw [e]; exact len2)⟩
  refine ⟨T, B.P, few, by omega, S.mem, ?_, fun b hb => ?_, fun h3 => ⟨ring_no (pr := zerosM w) ⟨B.asc, B.ne, B.few, B.wide, ⟨by simp [zerosM], fun x hx => by
    have := (List.mem_replicate.mp hx).2
    omega⟩, B.w4⟩ h3, ring_no B h3⟩⟩
  · have d : Span Dr (drawM rowsH (farM sc Dr) Dr) ∧ Ok Dr (drawM rowsH (farM sc Dr) Dr) := by
      unfold drawM
      split
      · exact star_ok B hfar
      · exact path_ok B
    generalize drawM rowsH (farM sc Dr) Dr = drawn at d
    unfold dueM
    rw [decide_eq_true (by rw [lj_len d.1] : ((ljM Dr drawn).length : Int) = (Dr.length : Int)), Bool.true_and, Bool.eq_iff_iff, shows_iff B, decide_eq_true_eq, B.worth, B.worth]
    constructor
    · rintro ⟨_, _, F2⟩
      have h1 := F2.least B.bd d.1 S
      have h2 := F.least B.bd S d.1
      omega
    · intro h
      exact ⟨d.1, d.2, F.of_least B.bd S d.1 (by omega)⟩
  · unfold wrongM wrong1 wrong2 at hb
    by_cases hne : out ≠ []
    · have lpos : 0 < out.length := List.length_pos_iff.mpr hne
      rw [if_pos hne, if_pos hne] at hb
      rcases List.mem_append.mp hb with hb | hb
      · rcases List.mem_cons.mp hb with rfl | hb
        · exact nlen (by rw [List.length_drop]; omega)
        · rw [List.mem_singleton.mp hb]
          exact nlen (by rw [List.length_append, List.length_take]; omega)
      · rw [List.mem_singleton.mp hb]
        obtain ⟨t, ht⟩ : ∃ t, t ∈ out := List.exists_mem_of_ne_nil _ hne
        have hm : (t.2, t.1) ∈ out.map fun t => (t.2, t.1) := List.mem_map.mpr ⟨t, ht, rfl⟩
        have bad : ¬ Ok Dr (out.map fun t => (t.2, t.1)) := fun o => by
          have h1 := (o _ hm).2.2
          have h2 := lt_asym (ok t ht).2.2
          simp only at h1
          rw [h1] at h2
          cases h2
        exact ⟨Bool.eq_false_iff.mpr fun hs => bad ((shows_iff B).mp hs).2.1, fun e => bad (e ▸ ok2)⟩
    · have e0 : out = [] := Classical.byContradiction hne
      have len1 : Dr.length = 1 := by rw [e0] at len; simp at len; omega
      rw [if_neg hne, if_neg hne] at hb
      have hb' : b = [(d0M Dr, d0M Dr)] := by
        rcases List.mem_append.mp hb with hb | hb <;> exact List.mem_singleton.mp hb
      rw [hb']
      exact nlen (by rw [len1]; simp)
end
end RC

/-! RqJ: plain law: the least changes over all orders. -/
namespace RC
open PySem.W (Datum DatumOrd Tup T3 minOf maxOf)
section
variable {Dr : List Row} {w : Nat} {pr : Row}
theorem minM_mem {xs : List Int} (h : xs ≠ []) : minM xs ∈ xs := by
  cases xs with
  | nil => exact absurd rfl h
  | cons x xs => exact minOf_mem x xs
theorem minM_le {xs : List Int} {y : Int} (h : y ∈ xs) : minM xs ≤ y := by
  cases xs with
  | nil => cases h
  | cons x xs =>
    have := minOf_le x xs y h
    have h2 : ¬ y < minOf x xs := by simpa [DatumOrd.lt] using this
    exact Int.not_lt.mp h2
/-- the same things, each once -/
def Turn (l σ : List Row) : Prop := σ.Nodup ∧ ∀ x, x ∈ σ ↔ x ∈ l
def W (pr : Row) (lot : List Row) (last : Row) (v : Int) : Prop :=
  (∃ σ, Turn lot σ ∧ v = (cost (ct pr) (pathM (last :: σ)) : Int)) ∧ ∀ σ, Turn lot σ → v ≤ (cost (ct pr) (pathM (last :: σ)) : Int)
theorem cost_path (pr a b : Row) (l : List Row) : cost (ct pr) (pathM (a :: b :: l)) = ct pr a b + cost (ct pr) (pathM (b :: l)) := rfl
theorem Turn.cons {l σ : List Row} {t : Row} (ht : t ∈ l) (h : Turn (withoutM l t).items σ) : Turn l (t :: σ) := by
  have hn : t ∉ σ := fun m => without_not ((h.2 t).mp m)
  refine ⟨List.nodup_cons.mpr ⟨hn, h.1⟩, fun x => ⟨fun m => ?_, fun m => ?_⟩⟩
  · rcases List.mem_cons.mp m with rfl | m
    · exact ht
    · exact (List.mem_filter.mp ((h.2 x).mp m)).1
  · by_cases e : x = t
    · rw [e]; exact List.mem_cons_self
    · exact List.mem_cons_of_mem _ ((h.2 x).mpr (List.mem_filter.mpr ⟨m, decide_eq_true e⟩))
theorem Turn.tail {l σ : List Row} {t : Row} (h : Turn l (t :: σ)) : t ∈ l ∧ Turn (withoutM l t).items σ := by
  have nd := List.nodup_cons.mp h.1
  refine ⟨(h.2 t).mp List.mem_cons_self, nd.2, fun x => ⟨fun m => ?_, fun m => ?_⟩⟩
  · exact List.mem_filter.mpr ⟨(h.2 x).mp (List.mem_cons_of_mem _ m), decide_eq_true fun e => nd.1 (e ▸ m)⟩
  · obtain ⟨h1, h2⟩ := List.mem_filter.mp m
    rcases List.mem_cons.mp ((h.2 x).mpr h1) with e | q
    · simp [e] at h2
    · exact q
/-- one step of the table -/
theorem W_step (B : Base Dr w pr) {lot : Lot} {last : Row} {rest : Rest} (hs : ∀ x, x ∈ lot.items → x ∈ Dr) (hl : last ∈ Dr) (hn : last ∉ lot.items) (h : ∀ t, t ∈ lot.items → W pr (withoutM lot.items t).items t (lk rest (withoutM lot.items t, t))) :
    W pr lot.items last (leastM lot last (costsM Dr pr) rest) := by
  have hc : ∀ t, t ∈ lot.items → lk (costsM Dr pr) (last, t) = (ct pr last t : Int) := fun t ht => B.look hl (hs t ht) fun e => hn (e ▸ ht)
  by_cases e : lot.items = []
  · have e1 : leastM lot last (costsM Dr pr) rest = 0 := by unfold leastM; rw [e]; rfl
    rw [e1, e]
    refine ⟨⟨[], ⟨by simp, fun x => Iff.rfl⟩, rfl⟩, fun σ hσ => ?_⟩
    exact Int.natCast_nonneg _
  · refine ⟨?_, fun σ hσ => ?_⟩
    · have hm := minM_mem (xs := lot.items.map fun t => lk (costsM Dr pr) (last, t) + lk rest (withoutM lot.items t, t)) (by simpa using e)
      obtain ⟨t, ht, et⟩ := List.mem_map.mp hm
      obtain ⟨σ, hσ, ev⟩ := (h t ht).1
      refine ⟨t :: σ, hσ.cons ht, ?_⟩
      have el : leastM lot last (costsM Dr pr) rest = minM (lot.items.map fun t => lk (costsM Dr pr) (last, t) + lk rest (withoutM lot.items t, t)) := rfl
      rw [cost_path, el, ← et, hc t ht, ev]
      omega
    · cases σ with
      | nil =>
        exfalso
        obtain ⟨x, hx⟩ := List.exists_mem_of_ne_nil _ e
        have := (hσ.2 x).mpr hx
        cases this
      | cons t σ =>
        obtain ⟨ht, hσ'⟩ := hσ.tail
        have h1 := (h t ht).2 σ hσ'
        have h2 := minM_le (xs := lot.items.map fun t => lk (costsM Dr pr) (last, t) + lk rest (withoutM lot.items t, t)) (List.mem_map.mpr ⟨t, ht, rfl⟩)
        have el : leastM lot last (costsM Dr pr) rest = minM (lot.items.map fun t => lk (costsM Dr pr) (last, t) + lk rest (withoutM lot.items t, t)) := rfl
        rw [cost_path, el]
        rw [hc t ht] at h2
        omega
theorem look_in {α : Type} [DecidableEq α] {kvs : List (α × Int)} {k : α} (h : k ∈ kvs.map (·.1)) : (k, lk kvs k) ∈ kvs := by
  have h1 := look_isSome h
  have h2 := look_lk h1
  unfold look at h2
  obtain ⟨p, hp, e⟩ := Option.map_eq_some_iff.mp h2
  have h3 := List.mem_of_find?_eq_some hp
  have h4 : p.1 = k := by simpa using List.find?_some hp
  have : p = (k, lk kvs k) := Prod.ext h4 e
  rw [← this]
  exact h3
theorem rest_W (B : Base Dr w pr) : ∀ i, i ≤ (pairsM Dr).length → ∀ e, e ∈ ((pairsM Dr).take i).foldl (restStep (costsM Dr pr)) [] → W pr e.1.1.items e.1.2 e.2 := by
  intro i
  induction i with
  | zero => intro _ e he; cases he
  | succ i ih =>
    intro hi e he
    have hlt : i < (pairsM Dr).length := hi
    have hg : (pairsM Dr)[i]? = some (pairsM Dr)[i] := List.getElem?_eq_getElem hlt
    rw [List.take_add_one, hg, List.foldl_append] at he
    simp only [Option.toList_some, List.foldl_cons, List.foldl_nil] at he
    unfold restStep at he
    rcases List.mem_append.mp he with he | he
    · exact ih (by omega) e he
    · rw [List.mem_singleton.mp he]
      obtain ⟨p1, p2, p3⟩ := pairsM_mem.mp (List.mem_of_getElem? hg)
      refine W_step B (fun x hx => p1.subset hx) p2 p3 fun t ht => ?_
      have hq : (withoutM ((pairsM Dr)[i]).1.items t, t) ∈ pairsM Dr := pairsM_mem.mpr ⟨without_sub p1, p1.subset ht, without_not⟩
      have hb := pairsM_before hg hq (without_len ht)
      have hk : (withoutM ((pairsM Dr)[i]).1.items t, t) ∈ (((pairsM Dr).take i).foldl (restStep (costsM Dr pr)) []).map (·.1) := by rw [rest_keys]; exact hb
      exact ih (by omega) _ (look_in hk)
/-- what the program finds: the cost of some way through all, and of none more -/
theorem changes_ok (B : Base Dr w pr) : (∃ p, Turn Dr p ∧ changesM Dr pr = (cost (ct pr) (pathM p) : Int)) ∧ ∀ p, Turn Dr p → changesM Dr pr ≤ (cost (ct pr) (pathM p) : Int) := by
  have all : ∀ t, t ∈ Dr → W pr (withoutM Dr t).items t (lk (restM Dr (costsM Dr pr)) (withoutM Dr t, t)) := fun t ht => by
    have hk : (withoutM Dr t, t) ∈ (restM Dr (costsM Dr pr)).map (·.1) := by
      unfold restM
      rw [rest_keys]
      exact List.mem_append_right _ (pairsM_mem.mpr ⟨without_sub (lot := Tup.mk Dr) (List.Sublist.refl _), ht, without_not⟩)
    have := rest_W B (pairsM Dr).length (Nat.le_refl _) _ (by rw [List.take_length]; exact look_in hk)
    exact this
  have el : changesM Dr pr = minM (Dr.map fun t => lk (restM Dr (costsM Dr pr)) (withoutM Dr t, t)) := rfl
  refine ⟨?_, fun p hp => ?_⟩
  · have hm := minM_mem (xs := Dr.map fun t => lk (restM Dr (costsM Dr pr)) (withoutM Dr t, t)) (by simpa using B.ne)
    obtain ⟨t, ht, et⟩ := List.mem_map.mp hm
    obtain ⟨σ, hσ, ev⟩ := (all t ht).1
    exact ⟨t :: σ, hσ.cons ht, by rw [el, ← et, ev]⟩
  · cases p with
    | nil =>
      exfalso
      obtain ⟨x, hx⟩ := List.exists_mem_of_ne_nil _ B.ne
      have := (hp.2 x).mpr hx
      cases this
    | cons t σ =>
      obtain ⟨ht, hσ⟩ := hp.tail
      have h1 := (all t ht).2 σ hσ
      have h2 := minM_le (xs := Dr.map fun t => lk (restM Dr (costsM Dr pr)) (withoutM Dr t, t)) (List.mem_map.mpr ⟨t, ht, rfl⟩)
      rw [el]
      omega
theorem Turn.len {V σ : List Row} (h : Turn V σ) (nd : V.Nodup) : σ.length = V.length := Nat.le_antisymm (nodup_le h.1 fun x hx => (h.2 x).mp hx) (nodup_le nd fun x hx => (h.2 x).mpr hx)
/-- no way through all costs less than a fair tree -/
theorem changes_low (B : Base Dr w pr) {T : List Tie} (S : Span Dr T) (F : Fair (ct pr) Dr T) : worthM T pr ≤ changesM Dr pr := by
  obtain ⟨⟨p, hp, e⟩, _⟩ := changes_ok B
  rw [e, B.worth]
  have := F.least B.bd S (path_span B.nd B.ne (hp.len B.nd) hp.2)
  omega
end
end RC

/-! RqK: plain law: the order around a tree. -/
namespace RC
open PySem.W (Datum DatumOrd Tup T3 minOf maxOf)
section
variable {Dr : List Row} {w : Nat} {pr : Row} {T : List Tie}
theorem ordM_symm (u v : Row) : ordM u v = ordM v u := by
  by_cases e : u = v
  · rw [e]
  · unfold ordM
    rcases Lin.tri u v e with q | q
    · rw [q, lt_asym q]; rfl
    · rw [q, lt_asym q]; rfl
theorem ordM_of_lt {u v : Row} (h : DatumOrd.lt u v = true) : ordM u v = (u, v) := by
  unfold ordM
  rw [h, lt_asym h]
  rfl
theorem ordM_ends {u v : Row} (h : u ≠ v) {S : Row → Prop} : (S (ordM u v).1 ∧ S (ordM u v).2) ↔ (S u ∧ S v) := by
  rcases ordM_cases h with ⟨e, _⟩ | ⟨e, _⟩
  · rw [e]
  · rw [e]; exact And.comm
theorem ordM_inj {u v x y : Row} (h1 : u ≠ v) (h2 : x ≠ y) (e : ordM u v = ordM x y) : (u = x ∧ v = y) ∨ (u = y ∧ v = x) := by
  rcases ordM_cases h1 with ⟨e1, _⟩ | ⟨e1, _⟩ <;> rcases ordM_cases h2 with ⟨e2, _⟩ | ⟨e2, _⟩ <;> (rw [e1, e2] at e; injection e with a b)
  · exact .inl ⟨a, b⟩
  · exact .inr ⟨a, b⟩
  · exact .inr ⟨b, a⟩
  · exact .inl ⟨b, a⟩
theorem tie_other (ok : Ok Dr T) {t : Tie} (ht : t ∈ T) {row : Row} (h : row ∈ [t.1, t.2]) : (if t.2 = row then t.1 else t.2) ≠ row ∧ t = ordM row (if t.2 = row then t.1 else t.2) := by
  have o := (ok t ht).2.2
  by_cases e : t.2 = row
  · rw [if_pos e, ← e]
    exact ⟨lt_ne o, by rw [ordM_symm, ordM_of_lt o]⟩
  · rw [if_neg e]
    refine ⟨e, ?_⟩
    have e1 : row = t.1 := by
      rcases List.mem_cons.mp h with q | q
      · exact q
      · exact absurd (List.mem_singleton.mp q).symm e
    rw [e1, ordM_of_lt o]
theorem near_mem (ok : Ok Dr T) {row x : Row} : x ∈ nearM T row ↔ x ≠ row ∧ ordM row x ∈ T := by
  unfold nearM
  rw [List.mem_map]
  constructor
  · rintro ⟨t, ht, rfl⟩
    obtain ⟨h1, h2⟩ := List.mem_filter.mp ht
    obtain ⟨h3, h4⟩ := tie_other ok h1 (of_decide_eq_true h2)
    exact ⟨h3, h4 ▸ h1⟩
  · rintro ⟨h1, h2⟩
    refine ⟨ordM row x, List.mem_filter.mpr ⟨h2, decide_eq_true ?_⟩, ?_⟩
    · rcases ordM_cases (Ne.symm h1) with ⟨e, _⟩ | ⟨e, _⟩
      · rw [e]; simp
      · rw [e]; simp
    · rcases ordM_cases (Ne.symm h1) with ⟨e, _⟩ | ⟨e, _⟩
      · rw [e, if_neg h1]
      · rw [e, if_pos rfl]
theorem near_nodup (ok : Ok Dr T) (nd : T.Nodup) (row : Row) : (nearM T row).Nodup := by
  unfold nearM
  refine List.pairwise_map.mpr (List.Pairwise.imp_of_mem (fun {s t} hs ht hne e => hne ?_) (nd.filter _))
  obtain ⟨h1, h2⟩ := List.mem_filter.mp hs
  obtain ⟨h3, h4⟩ := List.mem_filter.mp ht
  rw [(tie_other ok h1 (of_decide_eq_true h2)).2, (tie_other ok h3 (of_decide_eq_true h4)).2, e]
def kids (T : List Tie) (f : List Row) (row : Row) : List Row := sortD ((nearM T row).filter fun l => decide (l ∉ f))
theorem kids_mem (ok : Ok Dr T) {f : List Row} {row x : Row} : x ∈ kids T f row ↔ (x ≠ row ∧ ordM row x ∈ T) ∧ x ∉ f := by
  unfold kids
  rw [sortD_mem, List.mem_filter, near_mem ok, decide_eq_true_eq]
theorem kids_nodup (ok : Ok Dr T) (nd : T.Nodup) (f : List Row) (row : Row) : (kids T f row).Nodup := (sortD_nodup ((near_nodup ok nd row).filter _)).nodup
theorem cost_sub {c : Row → Row → Nat} : ∀ {U T : List Tie}, U.Nodup → (∀ t, t ∈ U → t ∈ T) → cost c U ≤ cost c T
  | [], _, _, _ => Nat.zero_le _
  | t :: U, T, nd, sub => by
    have nd' := List.nodup_cons.mp nd
    have ih := cost_sub (c := c) (U := U) (T := T.erase t) nd'.2 fun y hy => (List.mem_erase_of_ne (show y ≠ t from fun e => nd'.1 (e ▸ hy))).mpr (sub y (List.mem_cons_of_mem _ hy))
    have h := cost_perm (c := c) (List.perm_cons_erase (sub t List.mem_cons_self))
    rw [h]
    unfold cost at ih ⊢
    simp only [List.map_cons, List.sum_cons]
    omega
theorem path_snoc (pr r x : Row) : ∀ f : List Row, cost (ct pr) (pathM (f ++ [r] ++ [x])) = cost (ct pr) (pathM (f ++ [r])) + ct pr r x
  | [] => by
    show ct pr r x + 0 = 0 + ct pr r x
    omega
  | [a] => by
    show ct pr a r + (ct pr r x + 0) = ct pr a r + 0 + ct pr r x
    omega
  | a :: b :: f => by
    have := path_snoc pr r x (b :: f)
    show cost (ct pr) (pathM (a :: b :: (f ++ [r] ++ [x]))) = cost (ct pr) (pathM (a :: b :: (f ++ [r]))) + ct pr r x
    rw [cost_path, cost_path]
    have e1 : b :: f ++ [r] ++ [x] = b :: (f ++ [r] ++ [x]) := rfl
    have e2 : b :: f ++ [r] = b :: (f ++ [r]) := rfl
    rw [e1, e2] at this
    omega
/-- from r, of depth k, up along the ways that are still open -/
def Up (pr : Row) : Row → Nat → List (Row × Row × Nat) → Prop
  | _, _, [] => True
  | r, k, e :: g => ct pr r e.2.1 + e.2.2 ≤ k ∧ Up pr e.2.1 e.2.2 g
theorem Up.far (B : Base Dr w pr) {p x : Row} {k k' : Nat} (hp : p ∈ Dr) (hx : x ∈ Dr) (h : ct pr x p + k ≤ k') {g : List (Row × Row × Nat)} (hg : ∀ e, e ∈ g → e.2.1 ∈ Dr) (u : Up pr p k g) : Up pr x k' g := by
  cases g with
  | nil => trivial
  | cons e g =>
    obtain ⟨u1, u2⟩ := u
    have := B.tri hx hp (hg e List.mem_cons_self)
    exact ⟨by omega, u2⟩
theorem Up.kids {x : Row} {k : Nat} {g : List (Row × Row × Nat)} (u : Up pr x k g) : ∀ ys : List Row, Up pr x k (ys.map (fun y => (y, x, k)) ++ g)
  | [] => u
  | y :: ys => ⟨by show ct pr x x + k ≤ k; rw [ct_self]; omega, Up.kids u ys⟩
structure OInv (Dr : List Row) (pr : Row) (T : List Tie) (f left : List Row) (r : Row) (k : Nat) (g : List (Row × Row × Nat)) (U : List Tie) : Prop where
  nd : (f ++ left).Nodup
  sub : ∀ x, x ∈ f ++ left → x ∈ Dr
  last : ∃ f0, f = f0 ++ [r]
  gl : left = g.map (·.1)
  par : ∀ e, e ∈ g → e.2.1 ∈ f ∧ ordM e.2.1 e.1 ∈ T
  up : Up pr r k g
  und : U.Nodup
  used : ∀ t, t ∈ U → t ∈ T ∧ t.1 ∈ f ∧ t.2 ∈ f
  cost : cost (ct pr) (pathM f) + k ≤ 2 * RC.cost (ct pr) U
  conn : ∀ y, y ∈ f → Conn U r y
  clos : ∀ y, y ∈ f → ∀ z, z ≠ y → ordM y z ∈ T → z ∈ f ++ left
theorem ends_of (ok : Ok Dr T) {u v : Row} (ne : u ≠ v) (h : ordM u v ∈ T) : u ∈ Dr ∧ v ∈ Dr := (ordM_ends ne (S := fun x => x ∈ Dr)).mp ⟨(ok _ h).1, (ok _ h).2.1⟩
theorem OInv.turn (B : Base Dr w pr) (S : Span Dr T) (ok : Ok Dr T) {f rest : List Row} {r x p : Row} {k kp : Nat} {g : List (Row × Row × Nat)} {U : List Tie} (I : OInv Dr pr T f (x :: rest) r k ((x, p, kp) :: g) U) :
    OInv Dr pr T (f ++ [x]) (kids T (f ++ [x]) x ++ rest) x (kp + ct pr p x) ((kids T (f ++ [x]) x).map (fun y => (y, x, kp + ct pr p x)) ++ g) (ordM p x :: U) := by
  have nd := List.nodup_append.mp I.nd
  have ndl := List.nodup_cons.mp nd.2.1
  have xf : x ∉ f := fun h => nd.2.2 x h x List.mem_cons_self rfl
  have hr : r ∈ f := by obtain ⟨f0, e⟩ := I.last; rw [e]; simp
  obtain ⟨hp, hpt⟩ := I.par _ List.mem_cons_self
  simp only at hp hpt
  have npx : p ≠ x := fun e => xf (e ▸ hp)
  have fD : ∀ y, y ∈ f → y ∈ Dr := fun y hy => I.sub y (List.mem_append_left _ hy)
  have xD : x ∈ Dr := I.sub x (by simp)
  have gl : rest = g.map (·.1) := by have := I.gl; simpa using this
  obtain ⟨up1, up2⟩ := I.up
  simp only at up1 up2
  have hgD : ∀ e, e ∈ g → e.2.1 ∈ Dr := fun e he => fD _ (I.par e (List.mem_cons_of_mem _ he)).1
  have kid : ∀ {y}, y ∈ kids T (f ++ [x]) x ↔ (y ≠ x ∧ ordM x y ∈ T) ∧ y ∉ f ++ [x] := fun {y} => kids_mem ok
  have cyc : ∀ z, z ∈ kids T (f ++ [x]) x → z ∉ rest := fun z hz hzr => by
    obtain ⟨⟨h1, h2⟩, h3⟩ := kid.mp hz
    have zf : z ∉ f := fun h => h3 (List.mem_append_left _ h)
    rw [gl] at hzr
    obtain ⟨e, he, rfl⟩ := List.mem_map.mp hzr
    obtain ⟨q1, q2⟩ := I.par e (List.mem_cons_of_mem _ he)
    have nqz : e.2.1 ≠ e.1 := fun q => zf (q ▸ q1)
    have keep : ∀ t, t ∈ T → t ≠ ordM x e.1 → t ∈ T.filter fun l => decide (l ≠ ordM x e.1) := fun t ht hn => List.mem_filter.mpr ⟨ht, decide_eq_true hn⟩
    have c1 : Conn (T.filter fun l => decide (l ≠ ordM x e.1)) p x := ordM_conn npx (keep _ hpt fun q => by
      rcases ordM_inj npx (Ne.symm h1) q with ⟨a, b⟩ | ⟨a, b⟩
      · exact npx a
      · exact zf (a ▸ hp))
    have c2 : ∀ y, y ∈ f → Conn (T.filter fun l => decide (l ≠ ordM x e.1)) r y := fun y hy => (I.conn y hy).mono fun t ht => by
      obtain ⟨u1, u2, u3⟩ := I.used t ht
      refine keep t u1 fun q => ?_
      rw [q] at u2 u3
      exact zf ((ordM_ends (Ne.symm h1) (S := fun y => y ∈ f)).mp ⟨u2, u3⟩).2
    have c3 : Conn (T.filter fun l => decide (l ≠ ordM x e.1)) e.2.1 e.1 := ordM_conn nqz (keep _ q2 fun q => by
      rcases ordM_inj nqz (Ne.symm h1) q with ⟨a, b⟩ | ⟨a, b⟩
      · exact xf (a ▸ q1)
      · exact nqz a)
    have c4 := ((c1.symm.trans (c2 p hp).symm).trans (c2 _ q1)).trans c3
    have br := S.bridge h2
    rcases ordM_cases (Ne.symm h1) with ⟨a, _⟩ | ⟨a, _⟩
    · rw [a] at br c4
      exact br c4
    · rw [a] at br c4
      exact br c4.symm
  refine ⟨?_, fun y hy => ?_, ⟨f, rfl⟩, ?_, fun e he => ?_, ?_, ?_, fun t ht => ?_, ?_, fun y hy => ?_, fun y hy z hz ht => ?_⟩
  · refine List.nodup_append.mpr ⟨List.nodup_append.mpr ⟨nd.1, by simp, fun a ha b hb e => ?_⟩, List.nodup_append.mpr ⟨kids_nodup ok S.nodup _ _, ndl.2, fun a ha b hb e => cyc a ha (e ▸ hb)⟩, fun a ha b hb e => ?_⟩
    · rw [List.mem_singleton.mp hb] at e
      exact xf (e ▸ ha)
    · subst e
      rcases List.mem_append.mp hb with hb | hb
      · exact (kid.mp hb).2 ha
      · rcases List.mem_append.mp ha with ha | ha
        · exact nd.2.2 a ha a (List.mem_cons_of_mem _ hb) rfl
        · rw [List.mem_singleton.mp ha] at hb
          exact ndl.1 hb
  · rcases List.mem_append.mp hy with hy | hy
    · rcases List.mem_append.mp hy with hy | hy
      · exact fD y hy
      · rw [List.mem_singleton.mp hy]; exact xD
    · rcases List.mem_append.mp hy with hy | hy
      · have := (kid.mp hy).1
        exact (ends_of ok (Ne.symm this.1) this.2).2
      · exact I.sub y (List.mem_append_right _ (List.mem_cons_of_mem _ hy))
  · rw [List.map_append, List.map_map, gl]
    congr 1
    exact (List.map_id' _).symm
  · rcases List.mem_append.mp he with he | he
    · obtain ⟨y, hy, rfl⟩ := List.mem_map.mp he
      exact ⟨by simp, (kid.mp hy).1.2⟩
    · obtain ⟨h1, h2⟩ := I.par e (List.mem_cons_of_mem _ he)
      exact ⟨List.mem_append_left _ h1, h2⟩
  · refine Up.kids (Up.far B (fD p hp) xD ?_ hgD up2) _
    rw [ct_symm]
    omega
  · refine List.nodup_cons.mpr ⟨fun h => ?_, I.und⟩
    obtain ⟨_, u2, u3⟩ := I.used _ h
    exact xf ((ordM_ends npx (S := fun y => y ∈ f)).mp ⟨u2, u3⟩).2
  · rcases List.mem_cons.mp ht with rfl | ht
    · have := (ordM_ends npx (S := fun y => y ∈ f ++ [x])).mpr ⟨List.mem_append_left _ hp, by simp⟩
      exact ⟨hpt, this.1, this.2⟩
    · obtain ⟨u1, u2, u3⟩ := I.used t ht
      exact ⟨u1, List.mem_append_left _ u2, List.mem_append_left _ u3⟩
  · obtain ⟨f0, e⟩ := I.last
    have h1 := I.cost
    have h2 := path_snoc pr r x f0
    have h3 := B.tri (fD r hr) (fD p hp) xD
    have h4 : RC.cost (ct pr) (ordM p x :: U) = ct pr p x + RC.cost (ct pr) U := by
      show ct pr (ordM p x).1 (ordM p x).2 + _ = _
      rw [ordM_ct npx]
      rfl
    rw [h4]
    subst e
    omega
  · have c0 : Conn (ordM p x :: U) x p := (ordM_conn npx List.mem_cons_self).symm
    rcases List.mem_append.mp hy with hy | hy
    · exact (c0.trans ((I.conn p hp).symm.mono fun t => List.mem_cons_of_mem _)).trans ((I.conn y hy).mono fun t => List.mem_cons_of_mem _)
    · rw [List.mem_singleton.mp hy]; exact .refl _
  · rcases List.mem_append.mp hy with hy | hy
    · have := I.clos y hy z hz ht
      rcases List.mem_append.mp this with q | q
      · exact List.mem_append_left _ (List.mem_append_left _ q)
      · rcases List.mem_cons.mp q with rfl | q
        · exact List.mem_append_left _ (by simp)
        · exact List.mem_append_right _ (List.mem_append_right _ q)
    · rw [List.mem_singleton.mp hy] at hz ht
      by_cases hm : z ∈ f ++ [x]
      · exact List.mem_append_left _ hm
      · exact List.mem_append_right _ (List.mem_append_left _ (kid.mpr ⟨⟨hz, ht⟩, hm⟩))
theorem OInv.go (B : Base Dr w pr) (S : Span Dr T) (ok : Ok Dr T) : ∀ (n : Nat) (f left : List Row) (r : Row) (k : Nat) (g : List (Row × Row × Nat)) (U : List Tie), Dr.length - f.length = n → OInv Dr pr T f left r k g U →
    ∃ out, ORun T f left out ∧ Turn Dr out ∧ RC.cost (ct pr) (pathM out) ≤ 2 * RC.cost (ct pr) T := by
  intro n
  induction n with
  | zero =>
    intro f left r k g U hn I
    have h1 := nodup_le I.nd I.sub
    rw [List.length_append] at h1
    have e : left = [] := List.eq_nil_of_length_eq_zero (by omega)
    subst e
    have h2 := I.cost
    have h3 := cost_sub (c := ct pr) I.und fun t ht => (I.used t ht).1
    rw [List.length_nil] at h1
    have nd := I.nd
    have sub := I.sub
    rw [List.append_nil] at nd sub
    exact ⟨f, .done, ⟨nd, fun x => ⟨sub x, nodup_full nd sub (by omega) x⟩⟩, by omega⟩
  | succ n ih =>
    intro f left r k g U hn I
    cases g with
    | nil =>
      have e : left = [] := I.gl
      subst e
      have nd := I.nd
      have sub := I.sub
      rw [List.append_nil] at nd sub
      have hr : r ∈ f := by obtain ⟨f0, e⟩ := I.last; rw [e]; simp
      have closed : ∀ t, t ∈ T → (t.1 ∈ f ↔ t.2 ∈ f) := fun t ht => by
        have o := (ok t ht).2.2
        have e1 : ordM t.1 t.2 = t := ordM_of_lt o
        have e2 : ordM t.2 t.1 = t := by rw [ordM_symm, e1]
        exact ⟨fun h => by simpa using I.clos t.1 h t.2 (Ne.symm (lt_ne o)) (by rw [e1]; exact ht), fun h => by simpa using I.clos t.2 h t.1 (lt_ne o) (by rw [e2]; exact ht)⟩
      have full : ∀ x, x ∈ Dr → x ∈ f := fun x hx => ((S.all r x (sub r hr) hx).closed (S := fun z => z ∈ f) closed).mp hr
      have := nodup_le B.nd full
      omega
    | cons e g =>
      obtain ⟨x, p, kp⟩ := e
      obtain ⟨rest, hl⟩ : ∃ rest, left = x :: rest := ⟨g.map (fun z : Row × Row × Nat => z.1), I.gl⟩
      subst hl
      have I' := I.turn B S ok
      have hle := nodup_le I'.nd I'.sub
      rw [List.length_append] at hle
      have few := B.few
      obtain ⟨out, h1, h2⟩ := ih _ _ _ _ _ _ (by rw [List.length_append, List.length_singleton]; omega) I'
      exact ⟨out, .turn (by show (kids T (f ++ [x]) x ++ rest).length ≤ 1000; omega) h1, h2⟩
theorem order_ok (B : Base Dr w pr) (S : Span Dr T) (ok : Ok Dr T) : ∃ out, ORun T [] (Dr.take 1) out ∧ Turn Dr out ∧ RC.cost (ct pr) (pathM out) ≤ 2 * RC.cost (ct pr) T := by
  cases hD : Dr with
  | nil => exact absurd hD B.ne
  | cons d l =>
    rw [← hD]
    have hd : d ∈ Dr := by rw [hD]; exact List.mem_cons_self
    have e : Dr.take 1 = [d] := by rw [hD]; rfl
    rw [e]
    have kid : ∀ {y}, y ∈ kids T [d] d ↔ (y ≠ d ∧ ordM d y ∈ T) ∧ y ∉ [d] := fun {y} => kids_mem ok
    have I : OInv Dr pr T [d] (kids T [d] d) d 0 ((kids T [d] d).map fun y => (y, d, 0)) [] := by
      refine ⟨List.nodup_append.mpr ⟨by simp, kids_nodup ok S.nodup _ _, fun a ha b hb e => (kid.mp hb).2 (e ▸ ha)⟩, fun x hx => ?_, ⟨[], rfl⟩, ?_, fun e he => ?_, ?_, by simp, fun _ h => (nomatch h), Nat.le_refl _, fun y hy => ?_, fun y hy z hz ht => ?_⟩
      · rcases List.mem_append.mp hx with hx | hx
        · rw [List.mem_singleton.mp hx]; exact hd
        · have := (kid.mp hx).1
          exact (ends_of ok (Ne.symm this.1) this.2).2
      · rw [List.map_map]
        exact (List.map_id' _).symm
      · obtain ⟨y, hy, rfl⟩ := List.mem_map.mp he
        exact ⟨by simp, (kid.mp hy).1.2⟩
      · have := Up.kids (pr := pr) (x := d) (k := 0) (g := []) trivial (kids T [d] d)
        rwa [List.append_nil] at this
      · rw [List.mem_singleton.mp hy]; exact .refl _
      · rw [List.mem_singleton.mp hy] at hz ht
        exact List.mem_append_right _ (kid.mpr ⟨⟨hz, ht⟩, by simpa using hz⟩)
    obtain ⟨out, h1, h2⟩ := OInv.go B S ok _ [d] _ d 0 _ [] rfl I
    have hle := nodup_le I.nd I.sub
    rw [List.length_append] at hle
    have few := B.few
    have en : nextM T ([] ++ [d]) d [] = kids T [d] d := List.append_nil _
    refine ⟨out, .turn ?_ ?_, h2⟩
    · rw [en]; omega
    · rw [en]; exact h1
end
end RC

/-! RqL: plain law: the law's rows and prices; all together. -/
namespace RC
open PySem.W (Datum DatumOrd Tup T3 minOf maxOf)
theorem rows_ent (sc : List Int) (at_ c v : Nat) (hv : 1 ≤ v) : ∀ i x, x ∈ (List.range i).foldl (rowStep sc at_ c v) [] → x.items.length = c ∧ Ent 0 ((v : Int) - 1) x.items := by
  intro i
  induction i with
  | zero => intro x hx; cases hx
  | succ i ih =>
    intro x hx
    rw [foldl_range] at hx
    generalize (List.range i).foldl (rowStep sc at_ c v) [] = f at hx ih
    unfold rowStep at hx
    rcases List.mem_append.mp hx with hx | hx
    · exact ih x hx
    · rw [List.mem_singleton.mp hx]
      by_cases hc : f ≠ [] ∧ lastM sc at_ c i % 5 = 0
      · rw [if_pos hc]
        have hpos : 0 < f.length := List.length_pos_iff.mpr hc.1
        have h1 := Int.emod_nonneg (lastM sc at_ c i) (show (f.length : Int) ≠ 0 by omega)
        have h2 := Int.emod_lt_of_pos (lastM sc at_ c i) (show (0 : Int) < f.length by omega)
        exact ih _ (getD_mem (by omega))
      · rw [if_neg hc]
        refine ⟨by unfold newM; simp, fun y hy => ?_⟩
        unfold newM at hy
        obtain ⟨p, _, rfl⟩ := List.mem_map.mp hy
        have h1 := Int.emod_nonneg ((drawnM sc at_ c i).getD p 0) (show (v : Int) ≠ 0 by omega)
        have h2 := Int.emod_lt_of_pos ((drawnM sc at_ c i).getD p 0) (show (0 : Int) < v by omega)
        omega
theorem getD_at {α : Type} {l : List α} {i : Nat} (h : i < l.length) (d : α) : l.getD i d = l[i] := by
  rw [List.getD_eq_getElem?_getD, List.getElem?_eq_getElem h, Option.getD_some]
theorem diff_facts (rows : List Row) : Sasc (diffM rows) ∧ ∀ x, x ∈ diffM rows ↔ x ∈ rows := by
  have asc := List.pairwise_iff_getElem.mp (sortD_asc rows)
  have len := sortD_len rows
  unfold diffM
  rw [← len]
  constructor
  · refine List.pairwise_map.mpr (List.Pairwise.imp_of_mem (fun {i j} hi hj hij => ?_) (List.Pairwise.filter _ List.pairwise_lt_range))
    obtain ⟨hi1, _⟩ := List.mem_filter.mp hi
    obtain ⟨hj1, hj2⟩ := List.mem_filter.mp hj
    have hi' := List.mem_range.mp hi1
    have hj' := List.mem_range.mp hj1
    have hj3 : (sortD rows).getD (j - 1) (Tup.mk []) ≠ (sortD rows).getD j (Tup.mk []) := by
      rw [decide_eq_false (show ¬ j = 0 by omega), Bool.false_or, decide_eq_true_eq] at hj2
      exact hj2
    rw [getD_at (show j - 1 < (sortD rows).length by omega), getD_at hj'] at hj3
    rw [getD_at hi', getD_at hj']
    have h1 : DatumOrd.lt (sortD rows)[j - 1] (sortD rows)[j] = true := by
      have := asc (j - 1) j (by omega) hj' (by omega)
      rcases Lin.tri _ _ hj3 with q | q
      · exact q
      · rw [q] at this; cases this
    by_cases e : i = j - 1
    · subst e; exact h1
    · have h2 := asc i (j - 1) hi' (by omega) (by omega)
      by_cases e2 : (sortD rows)[i] = (sortD rows)[j - 1]
      · rw [e2]; exact h1
      · rcases Lin.tri _ _ e2 with q | q
        · exact Lin.tr _ _ _ q h1
        · rw [q] at h2; cases h2
  · intro x
    constructor
    · intro h
      obtain ⟨i, hi, rfl⟩ := List.mem_map.mp h
      have hi' := List.mem_range.mp (List.mem_filter.mp hi).1
      exact sortD_mem.mp (getD_mem hi')
    · intro h
      have key : ∀ k, k < (sortD rows).length → (sortD rows).getD k (Tup.mk []) ∈ ((List.range (sortD rows).length).filter fun i => decide (i = 0) || decide ((sortD rows).getD (i - 1) (Tup.mk []) ≠ (sortD rows).getD i (Tup.mk []))).map fun i => (sortD rows).getD i (Tup.mk []) := by
        intro k
        induction k with
        | zero => exact fun hk => List.mem_map.mpr ⟨0, List.mem_filter.mpr ⟨List.mem_range.mpr hk, rfl⟩, rfl⟩
        | succ k ih =>
          intro hk
          by_cases e : (sortD rows).getD k (Tup.mk []) = (sortD rows).getD (k + 1) (Tup.mk [])
          · rw [← e]; exact ih (by omega)
          · exact List.mem_map.mpr ⟨k + 1, List.mem_filter.mpr ⟨List.mem_range.mpr hk, by
              have : (sortD rows).getD (k + 1 - 1) (Tup.mk []) ≠ (sortD rows).getD (k + 1) (Tup.mk []) := e
              rw [decide_eq_true this, Bool.or_true]⟩, rfl⟩
      obtain ⟨k, hk, rfl⟩ := List.getElem_of_mem (sortD_mem.mpr h)
      rw [← getD_at hk (Tup.mk [])]
      exact key k hk
theorem plain_ok : Plain := fun sc _ => by
  obtain ⟨w1, w4, _⟩ := wL_bd sc
  obtain ⟨v1, v5, _⟩ := vL_bd sc
  obtain ⟨m1, m2, _⟩ := many_bd sc 1 10 (by decide)
  have rlen : (rowsL sc).length = manyM sc 1 10 := rows_len sc 1 (wL sc) (vL sc) _
  have rent : ∀ x, x ∈ rowsL sc → x.items.length = wL sc ∧ Ent 0 ((vL sc : Int) - 1) x.items := rows_ent sc 1 (wL sc) (vL sc) (by omega) _
  obtain ⟨d1, d2⟩ := diff_facts (rowsL sc)
  have dsub : ∀ x, x ∈ DrL sc → x ∈ rowsL sc := fun x hx => (d2 x).mp (List.mem_of_mem_take hx)
  have dasc : Sasc (DrL sc) := d1.sublist (List.take_sublist _ _)
  have dfew : (DrL sc).length ≤ 7 := by unfold DrL; rw [List.length_take]; omega
  have dne : DrL sc ≠ [] := fun e => by
    have h1 : diffM (rowsL sc) ≠ [] := fun e => by
      have h2 : rowsL sc ≠ [] := fun e => by rw [e] at rlen; simp at rlen; omega
      obtain ⟨x, hx⟩ := List.exists_mem_of_ne_nil _ h2
      have := (d2 x).mpr hx
      rw [e] at this
      cases this
    have h3 := List.length_pos_iff.mpr h1
    have h4 : (DrL sc).length = 0 := by rw [e]; rfl
    unfold DrL at h4
    rw [List.length_take] at h4
    omega
  have tmem : ∀ x, x ∈ DrL sc ↔ x ∈ tabL sc := fun x => ⟨fun h => List.mem_filter.mpr ⟨dsub x h, decide_eq_true h⟩, fun h => of_decide_eq_true (List.mem_filter.mp h).2⟩
  have tok : ∀ row, row ∈ tabL sc → RowOk (wL sc) row := fun row h => by
    obtain ⟨h1, h2⟩ := rent row (List.mem_filter.mp h).1
    refine ⟨h1, fun y hy => ?_⟩
    have := h2 y hy
    omega
  have tne : 1 ≤ (tabL sc).length := by
    obtain ⟨x, hx⟩ := List.exists_mem_of_ne_nil _ dne
    exact List.length_pos_of_mem ((tmem x).mp hx)
  have tfew : (tabL sc).length ≤ 10 := Nat.le_trans (List.length_filter_le _ _) (by omega)
  have P : PrOk (prL sc) (wL sc) := ⟨by unfold prL pricesM; simp, fun x hx => by
    unfold prL pricesM at hx
    obtain ⟨p, _, rfl⟩ := List.mem_map.mp hx
    have h1 := Int.emod_nonneg (numM sc (91 + p)) (show (10 : Int) ≠ 0 by decide)
    have h2 := Int.emod_lt_of_pos (numM sc (91 + p)) (show (0 : Int) < 10 by decide)
    omega⟩
  have T : TabOk (tabL sc) (DrL sc) (wL sc) := ⟨tne, tfew, w1, w4, tok, dasc, tmem, dfew⟩
  have B : Base (DrL sc) (wL sc) (prL sc) := ⟨dasc, dne, dfew, fun x hx => (rent x (dsub x hx)).1, P, w4⟩
  obtain ⟨out, run, So, oko, Fo⟩ := grown_ok B
  obtain ⟨St, okt, Ft⟩ := tree_ok B
  obtain ⟨ord, orun, tord, ocost⟩ := order_ok B St okt
  have hm : ∀ t, t ∈ sortD out ↔ t ∈ out := fun t => sortD_mem
  have Ss : Span (DrL sc) (sortD out) := So.same (sortD_len _) hm
  have oks : Ok (DrL sc) (sortD out) := oko.same hm
  have Fs : Fair (ct (prL sc)) (DrL sc) (sortD out) := Fo.same hm
  have eq : cost (ct (prL sc)) (treeM (DrL sc) (prL sc)) = cost (ct (prL sc)) (sortD out) := Nat.le_antisymm (Ft.least B.bd St Ss) (Fs.least B.bd Ss St)
  have hr : ∀ t, t ∈ (sortD out).reverse ↔ t ∈ sortD out := fun t => List.mem_reverse
  have olen := tord.len B.nd
  refine ⟨out, ord, ⟨fun x hx => (rent x hx).1, ⟨tne, tfew, wL sc, w1, w4, tok⟩, T, P, run, fun t ht => ⟨(oko t ht).1, (oko t ht).2.1⟩, ?_, (shows_iff B).mpr ⟨St, okt, Ft⟩, (shows_iff B).mpr ⟨Ss.same (List.length_reverse) hr, oks.same hr, Fs.same hr⟩,
    ?_, orun, by omega, ?_, fun x hx => (tord.2 x).mp hx, ?_, changes_low B Ss Fs, ?_, br_ok B T (by omega) Ss oks Fs St okt⟩⟩
  · rw [B.worth, B.worth, eq]
  · exact sortD_id (sortD_asc _)
  · exact sasc_eq (sortD_nodup tord.1) dasc fun x => sortD_mem.trans (tord.2 x)
  · rw [B.worth, B.worth, ← eq]
    omega
  · rw [B.worth]
    exact (changes_ok B).2 ord tord
end RC

open PySem PySem.W PyProof.Rows in
set_option maxRecDepth 100000 in
set_option maxHeartbeats 0 in
theorem PySem.Challenge.cw_runcolumns_k21_whole_ties_holds : PySem.Challenge.rw_runcolumns_k21_whole_ties.Holds := by
  w_on; o_law; k_head; (case hw => w_witness2)
  k_fill
  refine RC.walk RC.plain_ok (l := PySem.Challenge.rw_runcolumns_k21_whole_ties) rfl rfl (fun w h Y => PySem.W.kIn_of Y) ?F
  case F =>
    intro w mg fa h KX G hmg
    refine' RC.all_mk RC.plain_ok KX G hmg ?aT ?aB ?a_num ?l_num ?c_num ?k_num ?a_isRow ?l_isRow ?c_isRow ?k_isRow ?a_widthOf ?l_widthOf ?c_widthOf ?k_widthOf ?a_initT ?i_initT ?l_initT ?c_initT ?k_initT ?a_width ?g_width ?t_width ?r_width ?l_width ?c_width ?k_width ?a_diff ?i_diff ?l_diff ?c_diff ?k_diff ?a_ckT ?l_ckT ?c_ckT ?k_ckT ?a_ckP ?l_ckP ?c_ckP ?k_ckP ?a_apart ?l_apart ?c_apart ?k_apart ?a_with ?l_with ?c_with ?k_with ?a_lots ?l_lots ?c_lots ?k_lots ?a_pairs ?l_pairs ?c_pairs ?k_pairs ?a_least ?l_least ?c_least ?k_least ?a_rest ?l_rest ?c_rest ?k_rest ?a_lCost ?l_lCost ?c_lCost ?k_lCost ?a_initB ?i_initB ?l_initB ?c_initB ?k_initB ?a_eqB ?i_eqB ?l_eqB ?c_eqB ?k_eqB ?a_few ?l_few ?c_few ?k_few ?a_rows ?l_rows ?c_rows ?k_rows ?a_costs ?l_costs ?c_costs ?k_costs ?a_isTie ?l_isTie ?c_isTie ?k_isTie ?a_join ?l_join ?c_join ?k_join ?a_way ?l_way ?c_way ?k_way ?a_fair ?i_fair ?l_fair ?c_fair ?k_fair ?a_shows ?i_shows ?l_shows ?c_shows ?k_shows ?a_lCh ?l_lCh ?c_lCh ?k_lCh ?a_tree ?l_tree ?c_tree ?k_tree ?a_lTies ?l_lTies ?c_lTies ?k_lTies ?a_ord ?l_ord ?c_ord ?k_ord ?a_numb ?l_numb ?c_numb ?k_numb ?a_lRows ?l_lRows ?c_lRows ?k_lRows ?a_lApart ?l_lApart ?c_lApart ?k_lApart ?a_lDiff ?l_lDiff ?c_lDiff ?k_lDiff ?a_lPr ?l_lPr ?c_lPr ?k_lPr ?a_gr ?l_gr ?c_gr ?k_gr ?a_lJ ?l_lJ ?c_lJ ?k_lJ ?a_lW ?l_lW ?c_lW ?k_lW ?a_br ?l_br ?c_br ?k_br ?a_law ?l_law ?c_law ?k_law ?pgCT ?hdCT ?poCT ?saCT ?mkCT ?kcCT ?naCT ?h1CT ?h4CT ?pgCB ?hdCB ?poCB ?saCB ?mkCB ?kcCB ?naCB ?h1CB ?h4CB ?h2 ?h3 ?n_rows ?n_cols ?n_val ?n_price ?n_diff ?z_len ?z_sum ?z_all ?z_any ?z_sorted ?z_min ?z_max ?z_zip ?z_enumerate ?z_range ?z_tuple ?z_list ?z_set ?z_int ?z_bool ?z_isinstance
    (case aT => k_is)
    (case aB => k_is)
    (case a_num => k_is)
    (case l_num => k_is)
    (case c_num => k_is)
    (case k_num => k_is)
    (case a_isRow => k_is)
    (case l_isRow => k_is)
    (case c_isRow => k_is)
    (case k_isRow => k_is)
    (case a_widthOf => k_is)
    (case l_widthOf => k_is)
    (case c_widthOf => k_is)
    (case k_widthOf => k_is)
    (case a_initT => k_is)
    (case i_initT => k_is)
    (case l_initT => k_is)
    (case c_initT => k_is)
    (case k_initT => k_is)
    (case a_width => k_is)
    (case g_width => k_is)
    (case t_width => k_is)
    (case r_width => k_is)
    (case l_width => k_is)
    (case c_width => k_is)
    (case k_width => k_is)
    (case a_diff => k_is)
    (case i_diff => k_is)
    (case l_diff => k_is)
    (case c_diff => k_is)
    (case k_diff => k_is)
    (case a_ckT => k_is)
    (case l_ckT => k_is)
    (case c_ckT => k_is)
    (case k_ckT => k_is)
    (case a_ckP => k_is)
    (case l_ckP => k_is)
    (case c_ckP => k_is)
    (case k_ckP => k_is)
    (case a_apart => k_is)
    (case l_apart => k_is)
    (case c_apart => k_is)
    (case k_apart => k_is)
    (case a_with => k_is)
    (case l_with => k_is)
    (case c_with => k_is)
    (case k_with => k_is)
    (case a_lots => k_is)
    (case l_lots => k_is)
    (case c_lots => k_is)
    (case k_lots => k_is)
    (case a_pairs => k_is)
    (case l_pairs => k_is)
    (case c_pairs => k_is)
    (case k_pairs => k_is)
    (case a_least => k_is)
    (case l_least => k_is)
    (case c_least => k_is)
    (case k_least => k_is)
    (case a_rest => k_is)
    (case l_rest => k_is)
    (case c_rest => k_is)
    (case k_rest => k_is)
    (case a_lCost => k_is)
    (case l_lCost => k_is)
    (case c_lCost => k_is)
    (case k_lCost => k_is)
    (case a_initB => k_is)
    (case i_initB => k_is)
    (case l_initB => k_is)
    (case c_initB => k_is)
    (case k_initB => k_is)
    (case a_eqB => k_is)
    (case i_eqB => k_is)
    (case l_eqB => k_is)
    (case c_eqB => k_is)
    (case k_eqB => k_is)
    (case a_few => k_is)
    (case l_few => k_is)
    (case c_few => k_is)
    (case k_few => k_is)
    (case a_rows => k_is)
    (case l_rows => k_is)
    (case c_rows => k_is)
    (case k_rows => k_is)
    (case a_costs => k_is)
    (case l_costs => k_is)
    (case c_costs => k_is)
    (case k_costs => k_is)
    (case a_isTie => k_is)
    (case l_isTie => k_is)
    (case c_isTie => k_is)
    (case k_isTie => k_is)
    (case a_join => k_is)
    (case l_join => k_is)
    (case c_join => k_is)
    (case k_join => k_is)
    (case a_way => k_is)
    (case l_way => k_is)
    (case c_way => k_is)
    (case k_way => k_is)
    (case a_fair => k_is)
    (case i_fair => k_is)
    (case l_fair => k_is)
    (case c_fair => k_is)
    (case k_fair => k_is)
    (case a_shows => k_is)
    (case i_shows => k_is)
    (case l_shows => k_is)
    (case c_shows => k_is)
    (case k_shows => k_is)
    (case a_lCh => k_is)
    (case l_lCh => k_is)
    (case c_lCh => k_is)
    (case k_lCh => k_is)
    (case a_tree => k_is)
    (case l_tree => k_is)
    (case c_tree => k_is)
    (case k_tree => k_is)
    (case a_lTies => k_is)
    (case l_lTies => k_is)
    (case c_lTies => k_is)
    (case k_lTies => k_is)
    (case a_ord => k_is)
    (case l_ord => k_is)
    (case c_ord => k_is)
    (case k_ord => k_is)
    (case a_numb => k_is)
    (case l_numb => k_is)
    (case c_numb => k_is)
    (case k_numb => k_is)
    (case a_lRows => k_is)
    (case l_lRows => k_is)
    (case c_lRows => k_is)
    (case k_lRows => k_is)
    (case a_lApart => k_is)
    (case l_lApart => k_is)
    (case c_lApart => k_is)
    (case k_lApart => k_is)
    (case a_lDiff => k_is)
    (case l_lDiff => k_is)
    (case c_lDiff => k_is)
    (case k_lDiff => k_is)
    (case a_lPr => k_is)
    (case l_lPr => k_is)
    (case c_lPr => k_is)
    (case k_lPr => k_is)
    (case a_gr => k_is)
    (case l_gr => k_is)
    (case c_gr => k_is)
    (case k_gr => k_is)
    (case a_lJ => k_is)
    (case l_lJ => k_is)
    (case c_lJ => k_is)
    (case k_lJ => k_is)
    (case a_lW => k_is)
    (case l_lW => k_is)
    (case c_lW => k_is)
    (case k_lW => k_is)
    (case a_br => k_is)
    (case l_br => k_is)
    (case c_br => k_is)
    (case k_br => k_is)
    (case a_law => k_is)
    (case l_law => k_is)
    (case c_law => k_is)
    (case k_law => k_is)
    (case pgCT => k_is)
    (case hdCT => k_is)
    (case poCT => k_is)
    (case saCT => k_is)
    (case mkCT => k_is)
    (case kcCT => k_is)
    (case naCT => k_is)
    (case h1CT => k_is)
    (case h4CT => k_is)
    (case pgCB => k_is)
    (case hdCB => k_is)
    (case poCB => k_is)
    (case saCB => k_is)
    (case mkCB => k_is)
    (case kcCB => k_is)
    (case naCB => k_is)
    (case h1CB => k_is)
    (case h4CB => k_is)
    (case h2 => k_is)
    (case h3 => k_is)
    (case n_rows => k_is)
    (case n_cols => k_is)
    (case n_val => k_is)
    (case n_price => k_is)
    (case n_diff => k_is)
    (case z_len => k_is)
    (case z_sum => k_is)
    (case z_all => k_is)
    (case z_any => k_is)
    (case z_sorted => k_is)
    (case z_min => k_is)
    (case z_max => k_is)
    (case z_zip => k_is)
    (case z_enumerate => k_is)
    (case z_range => k_is)
    (case z_tuple => k_is)
    (case z_list => k_is)
    (case z_set => k_is)
    (case z_int => k_is)
    (case z_bool => k_is)
    (case z_isinstance => k_is)

