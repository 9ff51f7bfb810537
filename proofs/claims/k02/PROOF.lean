import PyProof.Rows.All
import Wide.All
import OpenK.AllK
import Wide.FinOn
import HandS.ForMost
import HandS.ExcOwn
import HandS.IsInst
import HandS.Style
import HandS.Flow
import HandS.Wide
import HandS.WordsExc
import HandS.Comp
import HandS.Iter
import HandS.Zip
import HandS.Rev
import KE.GoesNew
import HandS.TupAny
import HandS.TupMul
import HandS.SetFor
import HandS.Text
import PyProof.Rows.CountFlat
import KE.KDictList
import HandS.HotCalls
import HandS.ExcIs
import HandS.EndBits
import HandS.Defaults
import HandS.Head0
import HandS.Head1
import HandS.Head2
import HandS.HeadEnd
import HandS.HeadHook1
import HandS.HeadHook2
import HandS.HeadHook3
import HandS.HeadHook4
import HandS.Star
import HandS.SortInts
import KE.DataMinMax
import HandS.Strs
import PyProof.Rows.SortShellAny
import HandS.RaiseMore
import HandS.WideBits
import PySem.Challenge.RW_humpyard_k02_whole_full_sidings_by_all_c
import KE.IntBitsLaws
set_option Elab.async false
set_option linter.all false
set_option maxRecDepth 100000
set_option maxHeartbeats 2000000
/-! Z: readings at the level of plain data. A value is data (never written again), an owned object (a list that is still written; it stands in the
ledger), or a raw value. -/
namespace Z
open PySem PySem.Spec PyProof.Rows L2

/-- an owned object's content: some list of numbers that are not negative (the draws), a list of data -/
inductive Mo where
  | drw
  | lst (ds : List PyData)
  | dct (kvs : List (Key × PyData))
/-- what kind of object -/
def Mo.ty : Mo → String
  | .dct _ => "dict"
  | _ => "list"
abbrev Led := List (Addr × Mo)
abbrev Led.ks (L : Led) : List Addr := L.map Prod.fst
inductive Rs where
  | dat (d : PyData)
  | own (a : Addr)
  | raw (v : V)
  | scr (ns : List Int)
abbrev Ev := List (Option Rs)

def natV (n : Nat) : V := .int (n : Int)

def hid (L : Led) (H : Hp) : Hp := fun a => if a ∈ L.ks then none else H a
theorem hid_in {L : Led} {H : Hp} {a : Addr} (h : a ∈ L.ks) : hid L H a = none := if_pos h
theorem hid_out {L : Led} {H : Hp} {a : Addr} (h : a ∉ L.ks) : hid L H a = H a := if_neg h
def Ext (H H' : Hp) : Prop := ∀ a o, H a = some o → H' a = some o
theorem Ext.refl (H : Hp) : Ext H H := fun _ _ h => h
theorem Ext.trans {H H1 H2 : Hp} (a : Ext H H1) (b : Ext H1 H2) : Ext H H2 := fun x o h => b x o (a x o h)
theorem hid_sub {L : Led} {H : Hp} : Ext (hid L H) H := fun a o h => by
  unfold hid at h
  split at h
  · cases h
  · exact h
theorem ext_rd {H H' : Hp} {a : Addr} {u : HO} (e : Ext H H') (h : Rd H a u) : Rd H' a u := by
  rcases h with h | ⟨o, h⟩
  · exact .inl (e _ _ h)
  · exact .inr ⟨o, e _ _ h⟩
theorem ext_l {K : PySem.W.Frag} {H H' : Hp} {a : Addr} {xs : List V} (e : Ext H H') (h : SqL K H a xs) : SqL K H' a xs := by
  rcases h with h | h
  · exact .inl (ext_rd e h)
  · exact .inr h
theorem ext_t {K : PySem.W.Frag} {H H' : Hp} {a : Addr} {xs : List V} (e : Ext H H') (h : SqT K H a xs) : SqT K H' a xs := by
  rcases h with h | h
  · exact .inl (ext_rd e h)
  · exact .inr h
/-- the keys of dicts as data -/
def kD : Key → PyData
  | .inl i => .int i
  | .inr x => .str x
mutual
inductive Rp (K : PySem.W.Frag) (H : Hp) : V → PyData → Prop
  | non : Rp K H .non .none
  | bl (b : Bool) : Rp K H (.bl b) (.bool b)
  | int (i : Int) : Rp K H (.int i) (.int i)
  | str (x : Str) : Rp K H (.str x) (.str x)
  | lst {a : Addr} {xs : List V} {ds : List PyData} : H a = some (.lst xs) → RpAll K H xs ds → Rp K H (.ref a) (.list ds)
  | tup {a : Addr} {xs : List V} {ds : List PyData} : SqT K H a xs → RpAll K H xs ds → Rp K H (.ref a) (.tuple ds)
  | dct {a : Addr} {kvs : List (Key × V)} {ds : List (PyData × PyData)} : Rd H a (.dK kvs) → RpKv K H kvs ds → Rp K H (.ref a) (.dict ds)
inductive RpAll (K : PySem.W.Frag) (H : Hp) : List V → List PyData → Prop
  | nil : RpAll K H [] []
  | cons {v : V} {vs : List V} {d : PyData} {ds : List PyData} : Rp K H v d → RpAll K H vs ds → RpAll K H (v :: vs) (d :: ds)
inductive RpKv (K : PySem.W.Frag) (H : Hp) : List (Key × V) → List (PyData × PyData) → Prop
  | nil : RpKv K H [] []
  | cons {k : Key} {v : V} {vs : List (Key × V)} {d : PyData} {ds : List (PyData × PyData)} : Rp K H v d → RpKv K H vs ds → RpKv K H ((k, v) :: vs) ((kD k, d) :: ds)
end
mutual
theorem rp_mono {K : PySem.W.Frag} {H H' : Hp} (e : Ext H H') : ∀ {v : V} {d : PyData}, Rp K H v d → Rp K H' v d
  | _, _, .non => .non
  | _, _, .bl b => .bl b
  | _, _, .int i => .int i
  | _, _, .str x => .str x
  | _, _, .lst s h => .lst (e _ _ s) (rpAll_mono e h)
  | _, _, .tup s h => .tup (ext_t e s) (rpAll_mono e h)
  | _, _, .dct s h => .dct (ext_rd e s) (rpKv_mono e h)
theorem rpAll_mono {K : PySem.W.Frag} {H H' : Hp} (e : Ext H H') : ∀ {vs : List V} {ds : List PyData}, RpAll K H vs ds → RpAll K H' vs ds
  | _, _, .nil => .nil
  | _, _, .cons h t => .cons (rp_mono e h) (rpAll_mono e t)
theorem rpKv_mono {K : PySem.W.Frag} {H H' : Hp} (e : Ext H H') : ∀ {vs : List (Key × V)} {ds : List (PyData × PyData)}, RpKv K H vs ds → RpKv K H' vs ds
  | _, _, .nil => .nil
  | _, _, .cons h t => .cons (rp_mono e h) (rpKv_mono e t)
end
section
variable {K : PySem.W.Frag} {H : Hp}
theorem rpAll_len : ∀ {vs : List V} {ds : List PyData}, RpAll K H vs ds → vs.length = ds.length
  | _, _, .nil => rfl
  | _, _, .cons _ t => by rw [List.length_cons, List.length_cons, rpAll_len t]
theorem rpAll_get : ∀ {vs : List V} {ds : List PyData} {i : Nat} {d : PyData}, RpAll K H vs ds → ds[i]? = some d → ∃ v, vs[i]? = some v ∧ Rp K H v d
  | _, _, _, _, .nil, h => by simp at h
  | _, _, 0, _, .cons h _, e => ⟨_, rfl, by simp at e; subst e; exact h⟩
  | _, _, i + 1, _, .cons _ t, e => by
    obtain ⟨v, h1, h2⟩ := rpAll_get (i := i) t (by simpa using e)
    exact ⟨v, by simpa using h1, h2⟩
theorem rpAll_at : ∀ {vs : List V} {ds : List PyData} {i : Nat} {v : V}, RpAll K H vs ds → vs[i]? = some v → ∃ d, ds[i]? = some d ∧ Rp K H v d
  | _, _, _, _, .nil, h => by simp at h
  | _, _, 0, _, .cons h _, e => ⟨_, rfl, by simp at e; subst e; exact h⟩
  | _, _, i + 1, _, .cons _ t, e => by
    obtain ⟨v, h1, h2⟩ := rpAll_at (i := i) t (by simpa using e)
    exact ⟨v, by simpa using h1, h2⟩
theorem rpAll_app : ∀ {vs ws : List V} {ds es : List PyData}, RpAll K H vs ds → RpAll K H ws es → RpAll K H (vs ++ ws) (ds ++ es)
  | _, _, _, _, .nil, s => s
  | _, _, _, _, .cons h t, s => .cons h (rpAll_app t s)
theorem rpAll_one {v : V} {d : PyData} (h : Rp K H v d) : RpAll K H [v] [d] := .cons h .nil
theorem rpAll_map {α : Type} {f : α → V} {g : α → PyData} : ∀ (l : List α), (∀ x ∈ l, Rp K H (f x) (g x)) → RpAll K H (l.map f) (l.map g)
  | [], _ => .nil
  | x :: r, h => .cons (h x List.mem_cons_self) (rpAll_map r fun y hy => h y (List.mem_cons_of_mem _ hy))
theorem rpAll_ints (l : List Int) : RpAll K H (l.map V.int) (l.map PyData.int) := rpAll_map l fun x _ => .int x
theorem rpAll_strs (l : List Str) : RpAll K H (l.map V.str) (l.map PyData.str) := rpAll_map l fun x _ => .str x
theorem rpAll_bools (l : List Bool) : RpAll K H (l.map V.bl) (l.map PyData.bool) := rpAll_map l fun x _ => .bl x
theorem ints_of : ∀ {vs : List V} {l : List Int}, RpAll K H vs (l.map PyData.int) → vs = l.map V.int
  | _, [], .nil => rfl
  | _, i :: r, .cons h t => by
    cases h
    rw [ints_of t] <;> rfl
theorem strs_of : ∀ {vs : List V} {l : List Str}, RpAll K H vs (l.map PyData.str) → vs = l.map V.str
  | _, [], .nil => rfl
  | _, i :: r, .cons h t => by
    cases h
    rw [strs_of t] <;> rfl
theorem bools_of : ∀ {vs : List V} {l : List Bool}, RpAll K H vs (l.map PyData.bool) → vs = l.map V.bl
  | _, [], .nil => rfl
  | _, i :: r, .cons h t => by
    cases h
    rw [bools_of t] <;> rfl
theorem rpAll_take : ∀ {vs : List V} {ds : List PyData} (n : Nat), RpAll K H vs ds → RpAll K H (vs.take n) (ds.take n)
  | _, _, 0, _ => .nil
  | _, _, _ + 1, .nil => .nil
  | _, _, n + 1, .cons h t => .cons h (rpAll_take n t)
theorem rpAll_drop : ∀ {vs : List V} {ds : List PyData} (n : Nat), RpAll K H vs ds → RpAll K H (vs.drop n) (ds.drop n)
  | _, _, 0, r => r
  | _, _, _ + 1, .nil => .nil
  | _, _, n + 1, .cons _ t => rpAll_drop n t
theorem rpAll_set {v : V} {d : PyData} (h : Rp K H v d) : ∀ {vs : List V} {ds : List PyData} (n : Nat), RpAll K H vs ds → RpAll K H (vs.set n v) (ds.set n d)
  | _, _, _, .nil => .nil
  | _, _, 0, .cons _ t => .cons h t
  | _, _, n + 1, .cons q t => .cons q (rpAll_set h n t)
theorem rpAll_rev : ∀ {vs : List V} {ds : List PyData}, RpAll K H vs ds → RpAll K H vs.reverse ds.reverse
  | _, _, .nil => .nil
  | _, _, .cons h t => by
    rw [List.reverse_cons, List.reverse_cons]
    exact rpAll_app (rpAll_rev t) (rpAll_one h)
/-! without dicts: data as the library has it -/
mutual
def flatD : PyData → Bool
  | .dict _ => false
  | .list xs => flatAll xs
  | .tuple xs => flatAll xs
  | _ => true
def flatAll : List PyData → Bool
  | [] => true
  | x :: xs => flatD x && flatAll xs
end
mutual
theorem rp_dp : ∀ {v : V} {d : PyData}, Rp K H v d → flatD d = true → Dp K H v d
  | _, _, .non, _ => .non
  | _, _, .bl b, _ => .bl b
  | _, _, .int i, _ => .int i
  | _, _, .str x, _ => .str x
  | _, _, .lst s h, f => .lst (SqL.of s) (rpAll_dp h (by simpa [flatD] using f))
  | _, _, .tup s h, f => .tup s (rpAll_dp h (by simpa [flatD] using f))
  | _, _, .dct s h, f => by simp [flatD] at f
theorem rpAll_dp : ∀ {vs : List V} {ds : List PyData}, RpAll K H vs ds → flatAll ds = true → DpAll K H vs ds
  | _, _, .nil, _ => .nil
  | _, _, .cons h t, f => by
    simp only [flatAll, Bool.and_eq_true] at f
    exact .cons (rp_dp h f.1) (rpAll_dp t f.2)
end
end

/-! ### what holds of values, of the ledger, of the names -/
section
variable (K : PySem.W.Frag)
def RsOk (L : Led) (H : Hp) (v : V) : Rs → Prop
  | .dat d => Rp K (hid L H) v d
  | .own a => v = .ref a ∧ a ∈ L.ks
  | .raw w => v = w
  | .scr ns => ∃ a, v = .ref a ∧ SqL K (hid L H) a (ns.map V.int)
def MoOk (L : Led) (H : Hp) (a : Addr) : Mo → Prop
  | .drw => ∃ ns : List Nat, H a = some (.lst (ns.map natV))
  | .lst ds => ∃ xs, H a = some (.lst xs) ∧ RpAll K (hid L H) xs ds
  | .dct kvs => ∃ xs, H a = some (.dK xs) ∧ RpKv K (hid L H) xs (kvs.map fun p => (kD p.1, p.2))
structure LOk (L : Led) (H : Hp) : Prop where
  nd : L.ks.Nodup
  at_ : ∀ p ∈ L, MoOk K L H p.1 p.2
structure Rel (L : Led) (ε : Ev) (σ : L2.St) (H : Hp) : Prop where
  len : σ.length = ε.length
  slot : ∀ (i : Nat) (r : Rs), ε[i]? = some (some r) → ∃ v, σ[i]? = some (some v) ∧ RsOk K L H v r
  led : LOk K L H
end
/-- from the one state to the other: what isn't owned stands; what is owned anew was not there -/
structure Grow (H : Hp) (L : Led) (H' : Hp) (L' : Led) : Prop where
  old : ∀ a o, H a = some o → a ∉ L.ks → H' a = some o
  new : ∀ a ∈ L'.ks, a ∈ L.ks ∨ H a = none
abbrev Keeps (L L' : Led) : Prop := ∀ a ∈ L.ks, a ∈ L'.ks
theorem Grow.refl (H : Hp) (L : Led) : Grow H L H L := ⟨fun _ _ h _ => h, fun _ h => .inl h⟩
theorem Grow.trans {H H1 H2 : Hp} {L L1 L2 : Led} (a : Grow H L H1 L1) (b : Grow H1 L1 H2 L2) : Grow H L H2 L2 := by
  refine ⟨fun x o h hx => ?_, fun x hx => ?_⟩
  · refine b.old x o (a.old x o h hx) fun hm => ?_
    rcases a.new x hm with q | q
    · exact hx q
    · rw [h] at q
      cases q
  · rcases b.new x hx with q | q
    · exact a.new x q
    · cases e : H x with
      | none => exact .inr rfl
      | some o =>
        by_cases hx : x ∈ L.ks
        · exact .inl hx
        · rw [a.old x o e hx] at q
          cases q
theorem Grow.ext {H H1 : Hp} {L L1 : Led} (a : Grow H L H1 L1) : Ext (hid L H) (hid L1 H1) := fun x o h => by
  have h1 := hid_sub x o h
  have hx : x ∉ L.ks := fun z => by
    rw [hid_in z] at h
    cases h
  have hn : x ∉ L1.ks := fun z => by
    rcases a.new x z with q | q
    · exact hx q
    · rw [h1] at q
      cases q
  rw [hid_out hn]
  exact a.old x o h1 hx
section
variable {K : PySem.W.Frag} {L L' : Led} {H H' : Hp} {v : V} {r : Rs} {ε : Ev} {σ : L2.St}
theorem RsOk.grow (h : RsOk K L H v r) (g : Grow H L H' L') (k : Keeps L L') : RsOk K L' H' v r := by
  cases r with
  | dat d => exact rp_mono g.ext h
  | own a => exact ⟨h.1, k a h.2⟩
  | raw w => exact h
  | scr ns => exact let ⟨a, e, q⟩ := h; ⟨a, e, ext_l g.ext q⟩
theorem Rel.grow (h : Rel K L ε σ H) (g : Grow H L H' L') (k : Keeps L L') (l : LOk K L' H') : Rel K L' ε σ H' :=
  ⟨h.len, fun i r e => let ⟨v, a, b⟩ := h.slot i r e; ⟨v, a, b.grow g k⟩, l⟩
theorem LOk.isLst (h : LOk K L H) {a : Addr} {ds : List PyData} (m : (a, Mo.lst ds) ∈ L) : ∃ xs, H a = some (.lst xs) ∧ RpAll K (hid L H) xs ds := h.at_ _ m
theorem LOk.isDrw (h : LOk K L H) {a : Addr} (m : (a, Mo.drw) ∈ L) : ∃ ns : List Nat, H a = some (.lst (ns.map natV)) := h.at_ _ m
theorem Led.key {a : Addr} {m : Mo} (h : (a, m) ∈ L) : a ∈ L.ks := List.mem_map.mpr ⟨_, h, rfl⟩
/-- a new object that is not owned -/
theorem grow_new {p : Addr} {o : HO} (h : H p = none) : Grow H L (upd H p o) L :=
  ⟨fun a u e _ => by rw [upd_ne (ne_of_none e h)]; exact e, fun _ h => .inl h⟩
theorem hid_ext_new {p : Addr} {o : HO} (h : H p = none) : Ext (hid L H) (hid L (upd H p o)) := (grow_new h).ext
theorem LOk.mono_at (h : LOk K L H) (g : ∀ a ∈ L.ks, H' a = H a) (e : Ext (hid L H) (hid L H')) : LOk K L H' := by
  refine ⟨h.nd, fun p hp => ?_⟩
  have q := h.at_ p hp
  have ea := g p.1 (List.mem_map.mpr ⟨p, hp, rfl⟩)
  obtain ⟨a, m⟩ := p
  cases m with
  | drw =>
    obtain ⟨ns, z⟩ := q
    exact ⟨ns, ea.trans z⟩
  | lst ds =>
    obtain ⟨xs, z, y⟩ := q
    exact ⟨xs, ea.trans z, rpAll_mono e y⟩
  | dct ds =>
    obtain ⟨xs, z, y⟩ := q
    exact ⟨xs, ea.trans z, rpKv_mono e y⟩
theorem LOk.here (h : LOk K L H) {a : Addr} (ha : a ∈ L.ks) : ∃ o, H a = some o := by
  obtain ⟨p, hp, rfl⟩ := List.mem_map.mp ha
  have q := h.at_ p hp
  obtain ⟨a, m⟩ := p
  cases m with
  | drw => exact let ⟨ns, z⟩ := q; ⟨_, z⟩
  | lst ds => exact let ⟨xs, z, _⟩ := q; ⟨_, z⟩
  | dct ds => exact let ⟨xs, z, _⟩ := q; ⟨_, z⟩
theorem LOk.fresh (h : LOk K L H) {p : Addr} (e : H p = none) : p ∉ L.ks := fun z => by
  obtain ⟨o, q⟩ := h.here z
  rw [e] at q
  cases q
theorem LOk.new {p : Addr} {o : HO} (h : LOk K L H) (e : H p = none) : LOk K L (upd H p o) :=
  h.mono_at (fun a ha => upd_ne (fun z => h.fresh e (z ▸ ha))) (hid_ext_new e)
/-- a new object that is owned from now on -/
theorem grow_own {p : Addr} {o : HO} {m : Mo} (h : H p = none) : Grow H L (upd H p o) (L ++ [(p, m)]) :=
  ⟨fun a u e _ => by rw [upd_ne (ne_of_none e h)]; exact e, fun a ha => by
    rw [Led.ks, List.map_append, List.mem_append] at ha
    rcases ha with ha | ha
    · exact .inl ha
    · exact .inr (by rw [List.mem_singleton.mp ha]; exact h)⟩
theorem keeps_own {p : Addr} {m : Mo} : Keeps L (L ++ [(p, m)]) := fun a ha => by
  rw [Led.ks, List.map_append, List.mem_append]
  exact .inl ha
theorem Keeps.refl (L : Led) : Keeps L L := fun _ h => h
theorem Keeps.trans {L1 L2 : Led} (a : Keeps L L1) (b : Keeps L1 L2) : Keeps L L2 := fun x h => b x (a x h)
theorem LOk.own {p : Addr} {xs : List V} {ds : List PyData} (h : LOk K L H) (e : H p = none) (d : RpAll K (hid L H) xs ds) : LOk K (L ++ [(p, .lst ds)]) (upd H p (.lst xs)) := by
  have hp := h.fresh e
  have ex : Ext (hid L H) (hid (L ++ [(p, Mo.lst ds)]) (upd H p (.lst xs))) := (grow_own e).ext
  refine ⟨?_, fun q hq => ?_⟩
  · rw [Led.ks, List.map_append]
    refine List.nodup_append.mpr ⟨h.nd, by simp, fun a ha b hb => ?_⟩
    have eb : b = p := List.mem_singleton.mp hb
    rw [eb]
    exact fun z => hp (z ▸ ha)
  · rcases List.mem_append.mp hq with hq | hq
    · have z := h.at_ q hq
      have en : q.1 ≠ p := fun z => hp (z ▸ List.mem_map.mpr ⟨q, hq, rfl⟩)
      obtain ⟨a, m⟩ := q
      cases m with
      | drw =>
        obtain ⟨ns, z⟩ := z
        exact ⟨ns, by rw [upd_ne en]; exact z⟩
      | lst es =>
        obtain ⟨ys, z, y⟩ := z
        exact ⟨ys, by rw [upd_ne en]; exact z, rpAll_mono ex y⟩
      | dct es =>
        obtain ⟨ys, z, y⟩ := z
        exact ⟨ys, by rw [upd_ne en]; exact z, rpKv_mono ex y⟩
    · have e := List.mem_singleton.mp hq
      subst e
      exact ⟨xs, upd_same, rpAll_mono ex d⟩
end
end Z

set_option Elab.async false
set_option linter.all false
set_option maxRecDepth 100000
set_option maxHeartbeats 2000000
namespace Z
open PySem PySem.Spec PyProof.Rows L2
/-- what is wanted of an error: its class's address, the names, the ledger -/
abbrev KX := Addr → Ev → Led → Prop
structure Cz where
  K : PySem.W.Frag
  W : WX
  kx : KX
def ExOk (C : Cz) (L : Led) (H : Hp) : Prop := ∀ c ε' σ' L' H', Grow H L H' L' → Rel C.K L' ε' σ' H' → C.kx c ε' L' → C.W (.ref c) none σ' H'
theorem ExOk.grow {C : Cz} {L L' : Led} {H H' : Hp} (h : ExOk C L H) (g : Grow H L H' L') : ExOk C L' H' := fun c ε σ L2 H2 g2 r k => h c ε σ L2 H2 (g.trans g2) r k
abbrev RsAll (K : PySem.W.Frag) (L : Led) (H : Hp) : List V → List Rs → Prop := Paired fun v r => RsOk K L H v r
theorem RsAll.grow {K : PySem.W.Frag} {L L' : Led} {H H' : Hp} {vs : List V} {rs : List Rs} (h : RsAll K L H vs rs) (g : Grow H L H' L') (k : Keeps L L') : RsAll K L' H' vs rs := Paired.mapP h fun _ _ q => q.grow g k

/-! ### the judgements -/
/-- an expression: k holds of its value and the ledger -/
def CP (C : Cz) (te : TE) (ε : Ev) (L : Led) (k : Rs → Led → Prop) : Prop :=
  ∀ (σ : L2.St) (H : Hp) (Q : VK), Rel C.K L ε σ H → ExOk C L H → (∀ v r L' H', Grow H L H' L' → Keeps L L' → Rel C.K L' ε σ H' → RsOk C.K L' H' v r → k r L' → Q v H') → te σ H Q
def CT (C : Cz) (tt : TT) (ε : Ev) (L : Led) (k : Bool → Led → Prop) : Prop :=
  ∀ (σ : L2.St) (H : Hp) (Q : Bool → Hp → Prop), Rel C.K L ε σ H → ExOk C L H → (∀ b L' H', Grow H L H' L' → Keeps L L' → Rel C.K L' ε σ H' → k b L' → Q b H') → tt σ H Q
def CA (C : Cz) (ta : TA) (ε : Ev) (L : Led) (k : List Rs → Led → Prop) : Prop :=
  ∀ (σ : L2.St) (H : Hp) (Q : List V → Hp → Prop), Rel C.K L ε σ H → ExOk C L H → (∀ vs rs L' H', Grow H L H' L' → Keeps L L' → Rel C.K L' ε σ H' → RsAll C.K L' H' vs rs → k rs L' → Q vs H') → ta σ H Q
/-- by values: an operator, a call -/
def OD (C : Cz) (r : R2) (x y : Rs) (L : Led) (k : Rs → Led → Prop) : Prop :=
  ∀ (v w : V) (H : Hp) (Q : VK), LOk C.K L H → RsOk C.K L H v x → RsOk C.K L H w y → (∀ z s L' H', Grow H L H' L' → Keeps L L' → LOk C.K L' H' → RsOk C.K L' H' z s → k s L' → Q z H') → r v w H Q
def CD (C : Cz) (r : List V → Hp → VK → Prop) (xs : List Rs) (L : Led) (k : Rs → Led → Prop) : Prop :=
  ∀ (vs : List V) (H : Hp) (Q : VK), LOk C.K L H → RsAll C.K L H vs xs → (∀ z s L' H', Grow H L H' L' → Keeps L L' → LOk C.K L' H' → RsOk C.K L' H' z s → k s L' → Q z H') → r vs H Q
structure Post where
  nx : Ev → Led → Prop
  rt : Rs → Led → Prop
  bk : Ev → Led → Prop := fun _ _ => False
  ct : Ev → Led → Prop := fun _ _ => False
def StOk (K : PySem.W.Frag) (L : Led) (H : Hp) (q : Ev → Led → Prop) (D : L2.St → Hp → Prop) : Prop := ∀ ε' L' σ' H', Grow H L H' L' → Rel K L' ε' σ' H' → q ε' L' → D σ' H'
def RtOk (K : PySem.W.Frag) (L : Led) (H : Hp) (q : Rs → Led → Prop) (D : VK) : Prop := ∀ v r L' H', Grow H L H' L' → LOk K L' H' → RsOk K L' H' v r → q r L' → D v H'
theorem StOk.grow {K : PySem.W.Frag} {L L' : Led} {H H' : Hp} {q : Ev → Led → Prop} {D : L2.St → Hp → Prop} (h : StOk K L H q D) (g : Grow H L H' L') : StOk K L' H' q D := fun e l σ h2 g2 => h e l σ h2 (g.trans g2)
theorem RtOk.grow {K : PySem.W.Frag} {L L' : Led} {H H' : Hp} {q : Rs → Led → Prop} {D : VK} (h : RtOk K L H q D) (g : Grow H L H' L') : RtOk K L' H' q D := fun v r l h2 g2 => h v r l h2 (g.trans g2)
structure EndsOk (K : PySem.W.Frag) (L : Led) (H : Hp) (P : Post) (D : Ends) : Prop where
  nx : StOk K L H P.nx D.nx
  rt : RtOk K L H P.rt D.rt
  bk : StOk K L H P.bk D.bk
  ct : StOk K L H P.ct D.ct
theorem EndsOk.grow {K : PySem.W.Frag} {L L' : Led} {H H' : Hp} {P : Post} {D : Ends} (h : EndsOk K L H P D) (g : Grow H L H' L') : EndsOk K L' H' P D := ⟨h.nx.grow g, h.rt.grow g, h.bk.grow g, h.ct.grow g⟩
def HS (C : Cz) (t : TS) (ε : Ev) (L : Led) (P : Post) : Prop :=
  ∀ (σ : L2.St) (H : Hp) (D : Ends), Rel C.K L ε σ H → ExOk C L H → EndsOk C.K L H P D → t D σ H

section
variable {C : Cz} {ε : Ev} {L : Led} {k : Rs → Led → Prop} {kb : Bool → Led → Prop} {ta tb te tl : TE} {tt tu : TT}
/-! ### expressions -/
theorem cp_var {i : Nat} {r : Rs} (h : ε[i]? = some (some r)) (q : k r L) : CP C (tVar i) ε L k := fun σ H Q R X z => by
  obtain ⟨v, e, o⟩ := R.slot i r h
  exact ⟨v, e, z v r L H (Grow.refl H L) (Keeps.refl L) R o q⟩
theorem cp_of {v : V} {r : Rs} (h : ∀ H, RsOk C.K L H v r) (q : k r L) : CP C (tC v) ε L k := fun σ H Q R X z =>
  z v r L H (Grow.refl H L) (Keeps.refl L) R (h H) q
theorem cp_int {i : Int} (q : k (.dat (.int i)) L) : CP C (tC (.int i)) ε L k := cp_of (r := .dat (.int i)) (fun _ => Rp.int i) q
theorem cp_bl {b : Bool} (q : k (.dat (.bool b)) L) : CP C (tC (.bl b)) ε L k := cp_of (r := .dat (.bool b)) (fun _ => Rp.bl b) q
theorem cp_str {x : Str} (q : k (.dat (.str x)) L) : CP C (tC (.str x)) ε L k := cp_of (r := .dat (.str x)) (fun _ => Rp.str x) q
theorem cp_non (q : k (.dat .none) L) : CP C (tC .non) ε L k := cp_of (r := .dat .none) (fun _ => Rp.non) q
theorem cp_ref {a : Addr} (q : k (.raw (.ref a)) L) : CP C (tC (.ref a)) ε L k := cp_of (r := .raw (.ref a)) (fun _ => rfl) q
theorem cp_ty {n : String} (q : k (.raw (.ty n)) L) : CP C (tC (.ty n)) ε L k := cp_of (r := .raw (.ty n)) (fun _ => rfl) q
theorem CP.mono {k' : Rs → Led → Prop} (h : CP C te ε L k) (f : ∀ r L, k r L → k' r L) : CP C te ε L k' := fun σ H Q R X z => h σ H Q R X fun v r L' H' g kp R' o q => z v r L' H' g kp R' o (f r L' q)
theorem CT.mono {k' : Bool → Led → Prop} (h : CT C tt ε L kb) (f : ∀ r L, kb r L → k' r L) : CT C tt ε L k' := fun σ H Q R X z => h σ H Q R X fun b L' H' g kp R' q => z b L' H' g kp R' (f b L' q)
theorem HS.mono {t : TS} {P P' : Post} (h : HS C t ε L P) (f1 : ∀ e l, P.nx e l → P'.nx e l) (f2 : ∀ r l, P.rt r l → P'.rt r l) (f3 : ∀ e l, P.bk e l → P'.bk e l) (f4 : ∀ e l, P.ct e l → P'.ct e l) : HS C t ε L P' := fun σ H D R X E =>
  h σ H D R X ⟨fun e l s h2 g r q => E.nx e l s h2 g r (f1 _ _ q), fun v r l h2 g lo o q => E.rt v r l h2 g lo o (f2 _ _ q), fun e l s h2 g r q => E.bk e l s h2 g r (f3 _ _ q), fun e l s h2 g r q => E.ct e l s h2 g r (f4 _ _ q)⟩
theorem cp_op {r : R2} (h : CP C ta ε L fun x L1 => CP C tb ε L1 fun y L2 => OD C r x y L2 k) : CP C (tOp r ta tb) ε L k := fun σ H Q R X z =>
  h σ H _ R X fun v x L1 H1 g1 k1 R1 o1 h1 => h1 σ H1 _ R1 (X.grow g1) fun w y L2 H2 g2 k2 R2 o2 h2 =>
    h2 v w H2 Q R2.led (o1.grow g2 k2) o2 fun u s L3 H3 g3 k3 l3 o3 q => z u s L3 H3 ((g1.trans g2).trans g3) ((k1.trans k2).trans k3) (R2.grow g3 k3 l3) o3 q
theorem cp_un {r : V → Hp → VK → Prop} (h : CP C ta ε L fun x L1 => CD C (fun vs H Q => ∃ v, vs = [v] ∧ r v H Q) [x] L1 k) : CP C (tUn r ta) ε L k := fun σ H Q R X z =>
  h σ H _ R X fun v x L1 H1 g1 k1 R1 o1 h1 => by
    obtain ⟨v', e, q⟩ := h1 [v] H1 Q R1.led (.cons o1 .nil) fun u s L3 H3 g3 k3 l3 o3 q => z u s L3 H3 (g1.trans g3) (k1.trans k3) (R1.grow g3 k3 l3) o3 q
    cases e
    exact q
theorem ca_nil {k : List Rs → Led → Prop} (q : k [] L) : CA C tNil ε L k := fun σ H Q R X z => z [] [] L H (Grow.refl H L) (Keeps.refl L) R .nil q
theorem ca_cons {tr : TA} {k : List Rs → Led → Prop} (h : CP C ta ε L fun x L1 => CA C tr ε L1 fun xs L2 => k (x :: xs) L2) : CA C (tCons ta tr) ε L k := fun σ H Q R X z =>
  h σ H _ R X fun v x L1 H1 g1 k1 R1 o1 h1 => h1 σ H1 _ R1 (X.grow g1) fun vs xs L2 H2 g2 k2 R2 o2 q => z (v :: vs) (x :: xs) L2 H2 (g1.trans g2) (k1.trans k2) R2 (.cons (o1.grow g2 k2) o2) q
/-- a built-in's call -/
theorem cp_cb {ta : TA} {r : List V → Hp → VK → Prop} (h : CA C ta ε L fun xs L1 => CD C r xs L1 k) : CP C (tCB r ta) ε L k := fun σ H Q R X z =>
  h σ H _ R X fun vs xs L1 H1 g1 k1 R1 o1 h1 => h1 vs H1 Q R1.led o1 fun u s L3 H3 g3 k3 l3 o3 q => z u s L3 H3 (g1.trans g3) (k1.trans k3) (R1.grow g3 k3 l3) o3 q
/-! ### tests -/
theorem ct_test (h : CP C te ε L fun x L1 => ∃ b, x = .dat (.bool b) ∧ kb b L1) : CT C (tTest te) ε L kb := fun σ H Q R X z =>
  h σ H _ R X fun v x L1 H1 g1 k1 R1 o1 ⟨b, e, q⟩ => by
    subst e
    cases o1
    exact ⟨b, rfl, z b L1 H1 g1 k1 R1 q⟩
theorem ct_b (h : CP C te ε L fun x L1 => ∃ b, x = .dat (.bool b) ∧ kb b L1) : CT C (tB te) ε L kb := fun σ H Q R X z =>
  h σ H _ R X fun v x L1 H1 g1 k1 R1 o1 ⟨b, e, q⟩ => by
    subst e
    cases o1
    exact ⟨b, rfl, z b L1 H1 g1 k1 R1 q⟩
theorem ct_and (h : CT C tt ε L fun b L1 => if b = true then CT C tu ε L1 kb else kb false L1) : CT C (tAnd tt tu) ε L kb := fun σ H Q R X z =>
  h σ H _ R X fun b L1 H1 g1 k1 R1 q => by
    cases b with
    | true =>
      rw [if_pos rfl] at q ⊢
      exact q σ H1 Q R1 (X.grow g1) fun c L2 H2 g2 k2 R2 q => z c L2 H2 (g1.trans g2) (k1.trans k2) R2 q
    | false =>
      rw [if_neg (by decide)] at q ⊢
      exact z false L1 H1 g1 k1 R1 q
theorem ct_or (h : CT C tt ε L fun b L1 => if b = true then kb true L1 else CT C tu ε L1 kb) : CT C (tOr tt tu) ε L kb := fun σ H Q R X z =>
  h σ H _ R X fun b L1 H1 g1 k1 R1 q => by
    cases b with
    | true =>
      rw [if_pos rfl] at q ⊢
      exact z true L1 H1 g1 k1 R1 q
    | false =>
      rw [if_neg (by decide)] at q ⊢
      exact q σ H1 Q R1 (X.grow g1) fun c L2 H2 g2 k2 R2 q => z c L2 H2 (g1.trans g2) (k1.trans k2) R2 q
theorem ct_not (h : CT C tt ε L fun b L1 => kb (!b) L1) : CT C (tNot tt) ε L kb := fun σ H Q R X z =>
  h σ H _ R X fun b L1 H1 g1 k1 R1 q => z (!b) L1 H1 g1 k1 R1 q
/-! values that are tests -/
theorem cp_andV (h : CP C ta ε L fun x L1 => ∃ b, x = .dat (.bool b) ∧ if b = true then CP C tb ε L1 k else k (.dat (.bool false)) L1) : CP C (tAndV ta tb) ε L k := fun σ H Q R X z =>
  h σ H _ R X fun v x L1 H1 g1 k1 R1 o1 ⟨b, e, q⟩ => by
    subst e
    cases o1
    refine ⟨b, rfl, ?_⟩
    cases b with
    | true =>
      rw [if_pos rfl] at q ⊢
      exact q σ H1 Q R1 (X.grow g1) fun c s L2 H2 g2 k2 R2 o2 q => z c s L2 H2 (g1.trans g2) (k1.trans k2) R2 o2 q
    | false =>
      rw [if_neg (by decide)] at q ⊢
      exact z _ (.dat (.bool false)) L1 H1 g1 k1 R1 (.bl false) q
theorem cp_orV (h : CP C ta ε L fun x L1 => ∃ b, x = .dat (.bool b) ∧ if b = true then k (.dat (.bool true)) L1 else CP C tb ε L1 k) : CP C (tOrV ta tb) ε L k := fun σ H Q R X z =>
  h σ H _ R X fun v x L1 H1 g1 k1 R1 o1 ⟨b, e, q⟩ => by
    subst e
    cases o1
    refine ⟨b, rfl, ?_⟩
    cases b with
    | true =>
      rw [if_pos rfl] at q ⊢
      exact z _ (.dat (.bool true)) L1 H1 g1 k1 R1 (.bl true) q
    | false =>
      rw [if_neg (by decide)] at q ⊢
      exact q σ H1 Q R1 (X.grow g1) fun c s L2 H2 g2 k2 R2 o2 q => z c s L2 H2 (g1.trans g2) (k1.trans k2) R2 o2 q
theorem cp_notV (h : CP C ta ε L fun x L1 => ∃ b, x = .dat (.bool b) ∧ k (.dat (.bool (!b))) L1) : CP C (tNotV ta) ε L k := fun σ H Q R X z =>
  h σ H _ R X fun v x L1 H1 g1 k1 R1 o1 ⟨b, e, q⟩ => by
    subst e
    cases o1
    exact ⟨b, rfl, z _ (.dat (.bool (!b))) L1 H1 g1 k1 R1 (.bl _) q⟩
theorem cp_if (h : CT C tt ε L fun b L1 => if b = true then CP C ta ε L1 k else CP C tb ε L1 k) : CP C (tIf tt ta tb) ε L k := fun σ H Q R X z =>
  h σ H _ R X fun b L1 H1 g1 k1 R1 q => by
    cases b with
    | true =>
      rw [if_pos rfl] at q ⊢
      exact q σ H1 Q R1 (X.grow g1) fun c s L2 H2 g2 k2 R2 o2 q => z c s L2 H2 (g1.trans g2) (k1.trans k2) R2 o2 q
    | false =>
      rw [if_neg (by decide)] at q ⊢
      exact q σ H1 Q R1 (X.grow g1) fun c s L2 H2 g2 k2 R2 o2 q => z c s L2 H2 (g1.trans g2) (k1.trans k2) R2 o2 q
/-! ### new lists, new tuples -/
theorem rsAll_dats {K : PySem.W.Frag} {H : Hp} : ∀ {vs : List V} {ds : List PyData}, RsAll K L H vs (ds.map Rs.dat) → RpAll K (hid L H) vs ds
  | _, [], .nil => .nil
  | _, d :: r, .cons h t => .cons h (rsAll_dats t)
theorem cp_lst {ta : TA} (h : CA C ta ε L fun xs L1 => ∃ ds : List PyData, xs = ds.map Rs.dat ∧ ds.length ≤ sizeLine ∧ k (.dat (.list ds)) L1) : CP C (tLst ta) ε L k := fun σ H Q R X z =>
  h σ H _ R X fun vs xs L1 H1 g1 k1 R1 o1 ⟨ds, e, hl, q⟩ => by
    subst e
    have o2 := rsAll_dats o1
    refine ⟨by rw [rpAll_len o2]; exact hl, fun p hp => ?_⟩
    have g2 : Grow H1 L1 (upd H1 p (.lst vs)) L1 := grow_new hp
    have hn : p ∉ L1.ks := R1.led.fresh hp
    exact z _ (.dat (.list ds)) L1 _ (g1.trans g2) k1 (R1.grow g2 (Keeps.refl _) (R1.led.new hp)) (.lst (by rw [hid_out hn]; exact upd_same) (rpAll_mono g2.ext o2)) q
theorem cp_lstO {ta : TA} (h : CA C ta ε L fun xs L1 => ∃ ds : List PyData, xs = ds.map Rs.dat ∧ ds.length ≤ sizeLine ∧ ∀ p, p ∉ L1.ks → k (.own p) (L1 ++ [(p, .lst ds)])) : CP C (tLst ta) ε L k := fun σ H Q R X z =>
  h σ H _ R X fun vs xs L1 H1 g1 k1 R1 o1 ⟨ds, e, hl, q⟩ => by
    subst e
    have o2 := rsAll_dats o1
    refine ⟨by rw [rpAll_len o2]; exact hl, fun p hp => ?_⟩
    have g2 : Grow H1 L1 (upd H1 p (.lst vs)) (L1 ++ [(p, .lst ds)]) := grow_own hp
    exact z _ (.own p) _ _ (g1.trans g2) (k1.trans keeps_own) (R1.grow g2 keeps_own (R1.led.own hp o2)) ⟨rfl, by rw [Led.ks, List.map_append]; exact List.mem_append_right _ List.mem_cons_self⟩ (q p (R1.led.fresh hp))
theorem cp_tup {ta : TA} (h : CA C ta ε L fun xs L1 => ∃ ds : List PyData, xs = ds.map Rs.dat ∧ ds.length ≤ sizeLine ∧ k (.dat (.tuple ds)) L1) : CP C (tTup ta) ε L k := fun σ H Q R X z =>
  h σ H _ R X fun vs xs L1 H1 g1 k1 R1 o1 ⟨ds, e, hl, q⟩ => by
    subst e
    have o2 := rsAll_dats o1
    refine ⟨by rw [rpAll_len o2]; exact hl, fun p hp => ?_⟩
    have g2 : Grow H1 L1 (upd H1 p (.tup vs)) L1 := grow_new hp
    have hn : p ∉ L1.ks := R1.led.fresh hp
    exact z _ (.dat (.tuple ds)) L1 _ (g1.trans g2) k1 (R1.grow g2 (Keeps.refl _) (R1.led.new hp)) (.tup (SqT.of (by rw [hid_out hn]; exact upd_same)) (rpAll_mono g2.ext o2)) q

/-! ### statements -/
variable {P : Post} {t u : TS}
theorem hs_next (h : P.nx ε L) : HS C tNext ε L P := fun σ H D R X E => E.nx ε L σ H (Grow.refl H L) R h
theorem hs_brk (h : P.bk ε L) : HS C tBreak ε L P := fun σ H D R X E => E.bk ε L σ H (Grow.refl H L) R h
theorem hs_cont (h : P.ct ε L) : HS C tCont ε L P := fun σ H D R X E => E.ct ε L σ H (Grow.refl H L) R h
theorem hs_seq (h : HS C t ε L { P with nx := fun e l => HS C u e l P }) : HS C (tSeq t u) ε L P := fun σ H D R X E =>
  h σ H _ R X ⟨fun e l s h2 g r q => q s h2 D r (X.grow g) (E.grow g), E.rt, E.bk, E.ct⟩
theorem rel_set {K : PySem.W.Frag} {H : Hp} {σ : L2.St} {i : Nat} {v : V} {r : Rs} (R : Rel K L ε σ H) (o : RsOk K L H v r) : Rel K L (ε.set i (some r)) (σ.set i (some v)) H := by
  refine ⟨by rw [List.length_set, List.length_set]; exact R.len, fun j s e => ?_, R.led⟩
  by_cases h : i = j
  · subst h
    by_cases hl : i < ε.length
    · rw [List.getElem?_set_self hl] at e
      cases e
      exact ⟨v, by rw [List.getElem?_set_self (by rw [R.len]; exact hl)], o⟩
    · rw [List.getElem?_eq_none (by rw [List.length_set]; omega)] at e
      cases e
  · rw [List.getElem?_set_ne h] at e
    obtain ⟨w, e2, o2⟩ := R.slot j s e
    exact ⟨w, by rw [List.getElem?_set_ne h]; exact e2, o2⟩
theorem hs_asg {i : Nat} (h : CP C te ε L fun r L1 => P.nx (ε.set i (some r)) L1) : HS C (tAsg te (gName i)) ε L P := fun σ H D R X E =>
  h σ H _ R X fun v r L1 H1 g1 k1 R1 o1 q => E.nx _ L1 _ H1 g1 (rel_set R1 o1) q
theorem hs_drop (h : CP C te ε L fun r L1 => P.nx ε L1) : HS C (tDrop te) ε L P := fun σ H D R X E =>
  h σ H _ R X fun v r L1 H1 g1 k1 R1 o1 q => E.nx _ L1 _ H1 g1 R1 q
theorem hs_ret (h : CP C te ε L P.rt) : HS C (tRet te) ε L P := fun σ H D R X E =>
  h σ H _ R X fun v r L1 H1 g1 k1 R1 o1 q => E.rt v r L1 H1 g1 R1.led o1 q
theorem hs_retN (h : P.rt (.dat .none) L) : HS C tRetN ε L P := fun σ H D R X E => E.rt _ (.dat .none) L H (Grow.refl H L) R.led .non h
theorem hs_if (h : CT C tt ε L fun b L1 => if b = true then HS C t ε L1 P else HS C u ε L1 P) : HS C (tIfS tt t u) ε L P := fun σ H D R X E =>
  h σ H _ R X fun b L1 H1 g1 k1 R1 q => by
    cases b with
    | true =>
      rw [if_pos rfl] at q ⊢
      exact q σ H1 D R1 (X.grow g1) (E.grow g1)
    | false =>
      rw [if_neg (by decide)] at q ⊢
      exact q σ H1 D R1 (X.grow g1) (E.grow g1)
theorem hs_aug {i : Nat} {ti : TIp} {x : Rs} (hx : ε[i]? = some (some x)) (h : CP C te ε L fun y L1 => OD C ti x y L1 fun z L2 => P.nx (ε.set i (some z)) L2) : HS C (tAug i te ti) ε L P := fun σ H D R X E => by
  obtain ⟨v, e, o⟩ := R.slot i x hx
  refine ⟨v, e, h σ H _ R X fun w y L1 H1 g1 k1 R1 o1 q => ?_⟩
  exact q v w H1 _ R1.led (o.grow g1 k1) o1 fun u s L3 H3 g3 k3 l3 o3 q => E.nx _ L3 _ H3 (g1.trans g3) (rel_set (R1.grow g3 k3 l3) o3) q
end
end Z

set_option Elab.async false
set_option linter.all false
set_option maxRecDepth 100000
set_option maxHeartbeats 2000000
namespace Z
open PySem PySem.Spec PyProof.Rows L2
/-! ### a def's promise over data -/
abbrev DSp := List Rs → Led → (Rs → Led → Prop) → (Addr → Led → Prop) → Prop
def lift (K : PySem.W.Frag) (d : DSp) : Sp := fun vs H Q E => ∃ rs L k x, RsAll K L H vs rs ∧ LOk K L H ∧ d rs L k x ∧
  (∀ v r L' H', Grow H L H' L' → Keeps L L' → LOk K L' H' → RsOk K L' H' v r → k r L' → Q v H') ∧ (∀ c L' H', Grow H L H' L' → Keeps L L' → LOk K L' H' → x c L' → E (.ref c) none H')
section
variable {C : Cz} {ε : Ev} {L : Led} {k : Rs → Led → Prop} {ta : TA} {d : DSp}
theorem cp_call (h : CA C ta ε L fun rs L1 => d rs L1 k fun _ _ => False) : CP C (tCall (lift C.K d) [] E0 ta) ε L k := fun σ H Q R X z =>
  h σ H _ R X fun vs rs L1 H1 g1 k1 R1 o1 q => by
    rw [List.append_nil]
    exact ⟨rs, L1, k, _, o1, R1.led, q, fun v r L2 H2 g2 k2 l2 o2 q2 => z v r L2 H2 (g1.trans g2) (k1.trans k2) (R1.grow g2 k2 l2) o2 q2, fun _ _ _ _ _ _ f => f.elim⟩
theorem cp_callS (h : CA C ta ε L fun rs L1 => d rs L1 k fun c L2 => C.kx c ε L2) : CP C (tCallS (lift C.K d) (WE C.W) ta) ε L k := fun σ H Q R X z =>
  h σ H _ R X fun vs rs L1 H1 g1 k1 R1 o1 q =>
    ⟨rs, L1, k, _, o1, R1.led, q, fun v r L2 H2 g2 k2 l2 o2 q2 => z v r L2 H2 (g1.trans g2) (k1.trans k2) (R1.grow g2 k2 l2) o2 q2, fun c L2 H2 g2 k2 l2 f => X c ε σ L2 H2 (g1.trans g2) (R1.grow g2 k2 l2) f⟩
end
/-! ### a def by its body -/
abbrev C0 (K : PySem.W.Frag) : Cz := ⟨K, fun _ _ _ _ => False, fun _ _ _ => False⟩
theorem exOk0 {K : PySem.W.Frag} {L : Led} {H : Hp} : ExOk (C0 K) L H := fun _ _ _ _ _ _ _ f => f.elim
def ev0 (n : Nat) (rs : List Rs) : Ev := rs.map some ++ List.replicate (n - rs.length) none
theorem rel_start {K : PySem.W.Frag} {L : Led} {H : Hp} {N : List Str} {vs : List V} {rs : List Rs} (h : RsAll K L H vs rs) (l : LOk K L H) : Rel K L (ev0 N.length rs) (L2.start N vs) H := by
  have e := Paired.length h
  refine ⟨?_, fun i r hr => ?_, l⟩
  · unfold L2.start ev0
    rw [List.length_append, List.length_append, List.length_map, List.length_map, List.length_replicate, List.length_replicate, e]
  · unfold ev0 at hr
    by_cases hi : i < rs.length
    · rw [List.getElem?_append_left (by simpa using hi), List.getElem?_map] at hr
      cases e2 : rs[i]? with
      | none =>
        rw [e2] at hr
        cases hr
      | some r' =>
        rw [e2] at hr
        cases hr
        have hv : i < vs.length := by omega
        have key : ∀ {vs : List V} {rs : List Rs} {i : Nat} {r : Rs}, RsAll K L H vs rs → rs[i]? = some r → ∃ v, vs[i]? = some v ∧ RsOk K L H v r := by
          intro vs rs i r p
          induction p generalizing i with
          | nil => intro q; simp at q
          | cons a b ih =>
            intro q
            cases i with
            | zero => simp at q; subst q; exact ⟨_, rfl, a⟩
            | succ j =>
              obtain ⟨v, q1, q2⟩ := ih (i := j) (by simpa using q)
              exact ⟨v, by simpa using q1, q2⟩
        obtain ⟨v, e3, o⟩ := key h e2
        refine ⟨v, ?_, o⟩
        unfold L2.start
        rw [List.getElem?_append_left (by simpa using hv), List.getElem?_map, e3]
        rfl
    · rw [List.getElem?_append_right (by simpa using hi), List.getElem?_replicate] at hr
      split at hr <;> cases hr
/-! ### iterators -/
/-- J hands out the data ds, one by one, from H on -/
def ItOk (K : PySem.W.Frag) (L : Led) (H : Hp) (J : It) (ds : List PyData) : Prop := ∀ L' H', Grow H L H' L' → LOk K L' H' → ∀ i, (i = ds.length → J.stop i H') ∧
  ∀ d, ds[i]? = some d → J.go i H' ∧ ∀ v H2, J.yld i H' v H2 → Grow H' L' H2 L' ∧ LOk K L' H2 ∧ Rp K (hid L' H2) v d
def CI (C : Cz) (wi : TI) (ε : Ev) (L : Led) (q : List PyData → Led → Prop) : Prop := ∀ (σ : L2.St) (H : Hp) (R : It → Hp → Prop), Rel C.K L ε σ H → ExOk C L H →
  (∀ J ds L' H', Grow H L H' L' → Keeps L L' → Rel C.K L' ε σ H' → ItOk C.K L' H' J ds → q ds L' → R J H') → wi σ H R
/-- a target -/
def CG (C : Cz) (g : TG) (r : Rs) (ε : Ev) (L : Led) (q : Ev → Led → Prop) : Prop := ∀ (v : V) (σ : L2.St) (H : Hp) (Q : L2.St → Hp → Prop), Rel C.K L ε σ H → RsOk C.K L H v r →
  (∀ ε' L' σ' H', Grow H L H' L' → Keeps L L' → Rel C.K L' ε' σ' H' → q ε' L' → Q σ' H') → g v σ H Q
section
variable {C : Cz} {ε : Ev} {L : Led} {P : Post} {k : Rs → Led → Prop} {q : Ev → Led → Prop} {wi wi1 : TI} {g g1 : TG} {tb : TS} {tt tt1 : TT} {te : TE}
theorem cg_name {i : Nat} {r : Rs} (h : q (ε.set i (some r)) L) : CG C (gName i) r ε L q := fun v σ H Q R o z => z _ L _ H (Grow.refl H L) (Keeps.refl L) (rel_set R o) h
theorem cg_tup2 {K : PySem.W.Frag} {i j : Nat} {a b : PyData} (h : q ((ε.set i (some (.dat a))).set j (some (.dat b))) L) (hK : C.K = K := by rfl) : CG C (gTup K 2 (gCons (gName i) (gCons (gName j) gNil))) (.dat (.tuple [a, b])) ε L q := fun v σ H Q R o z => by
  subst hK
  cases o with
  | @tup p xs ds hs hx =>
    cases hx with
    | @cons v1 _ _ _ h1 ht =>
      cases ht with
      | @cons v2 _ _ _ h2 hn =>
        cases hn
        exact ⟨p, [v1, v2], rfl, ext_t hid_sub hs, rfl, v1, [v2], rfl, v2, [], rfl, rfl, z _ L _ H (Grow.refl H L) (Keeps.refl L) (rel_set (r := .dat b) (rel_set (r := .dat a) R h1) h2) h⟩
theorem cg_tup3 {K : PySem.W.Frag} {i j l : Nat} {a b c : PyData} (h : q (((ε.set i (some (.dat a))).set j (some (.dat b))).set l (some (.dat c))) L) (hK : C.K = K := by rfl) : CG C (gTup K 3 (gCons (gName i) (gCons (gName j) (gCons (gName l) gNil)))) (.dat (.tuple [a, b, c])) ε L q := fun v σ H Q R o z => by
  subst hK
  cases o with
  | @tup p xs ds hs hx =>
    cases hx with
    | @cons v1 _ _ _ h1 ht =>
      cases ht with
      | @cons v2 _ _ _ h2 ht =>
        cases ht with
        | @cons v3 _ _ _ h3 hn =>
          cases hn
          exact ⟨p, [v1, v2, v3], rfl, ext_t hid_sub hs, rfl, v1, [v2, v3], rfl, v2, [v3], rfl, v3, [], rfl, rfl, z _ L _ H (Grow.refl H L) (Keeps.refl L) (rel_set (r := .dat c) (rel_set (r := .dat b) (rel_set (r := .dat a) R h1) h2) h3) h⟩
theorem hs_for (h : CI C wi ε L fun ds L1 => ∃ I : Nat → Ev → Led → Prop, I 0 ε L1 ∧
      (∀ i d ε' L', ds[i]? = some d → I i ε' L' → CG C g (.dat d) ε' L' fun ε2 L2 => HS C tb ε2 L2 { P with nx := I (i + 1), ct := I (i + 1), bk := P.nx }) ∧ ∀ ε' L', I ds.length ε' L' → P.nx ε' L') : HS C (tFor wi g tb) ε L P := fun σ H D R X E =>
  h σ H _ R X fun J ds L1 H1 g1 k1 R1 J1 ⟨I, i0, hs, hd⟩ => by
    refine ⟨fun i m σ' H' => m = ds.length - i ∧ i ≤ ds.length ∧ ∃ ε' L', Grow H1 L1 H' L' ∧ Rel C.K L' ε' σ' H' ∧ I i ε' L', ⟨_, rfl, Nat.zero_le _, ε, L1, Grow.refl _ _, R1, i0⟩, ?_⟩
    rintro i m σ' H' ⟨rfl, hi, ε', L', g', R', hI⟩
    obtain ⟨js, jg⟩ := J1 L' H' g' R'.led i
    by_cases hl : i < ds.length
    · have hx : ds[i]? = some ds[i] := List.getElem?_eq_getElem hl
      obtain ⟨j1, j2⟩ := jg _ hx
      refine .inr ⟨j1, fun σ2 H2 => i + 1 ≤ ds.length ∧ ∃ ε2 L2, Grow H1 L1 H2 L2 ∧ Rel C.K L2 ε2 σ2 H2 ∧ I (i + 1) ε2 L2, fun σ2 H2 ⟨a, b⟩ => ⟨ds.length - (i + 1), by omega, rfl, a, b⟩, fun v H2 y => ?_⟩
      obtain ⟨g2, l2, rp⟩ := j2 v H2 y
      refine hs i _ ε' L' hx hI v σ' H2 _ (R'.grow g2 (Keeps.refl _) l2) rp fun ε3 L3 σ3 H3 g3 k3 R3 q3 => ?_
      have gg := g1.trans (g'.trans (g2.trans g3))
      refine q3 σ3 H3 _ R3 (X.grow gg) ⟨fun e l s h2 g r z => ⟨hl, e, l, g'.trans (g2.trans (g3.trans g)), r, z⟩, E.rt.grow gg, E.nx.grow gg, fun e l s h2 g r z => ⟨hl, e, l, g'.trans (g2.trans (g3.trans g)), r, z⟩⟩
    · have e : i = ds.length := by omega
      exact .inl ⟨js e, E.nx ε' L' σ' H' (g1.trans g') R' (hd ε' L' (e ▸ hI))⟩
theorem hs_while {tc : TT} (I : Ev → Led → Prop) (μ : Ev → Led → Nat) (h0 : I ε L) (hs : ∀ ε' L', I ε' L' → CT C tc ε' L' fun b L2 => if b = true then HS C tb ε' L2 { P with nx := fun e l => I e l ∧ μ e l < μ ε' L', ct := fun e l => I e l ∧ μ e l < μ ε' L', bk := P.nx } else P.nx ε' L2) : HS C (tWhile tc tb) ε L P := fun σ H D R X E => by
  refine ⟨fun m σ' H' => ∃ ε' L', m = μ ε' L' ∧ Grow H L H' L' ∧ Rel C.K L' ε' σ' H' ∧ I ε' L', ⟨_, ε, L, rfl, Grow.refl _ _, R, h0⟩, ?_⟩
  rintro m σ' H' ⟨ε', L', rfl, g', R', hI⟩
  refine hs ε' L' hI σ' H' _ R' (X.grow g') fun b L2 H2 g2 k2 R2 q => ?_
  cases b with
  | true =>
    rw [if_pos rfl] at q ⊢
    refine ⟨fun σ3 H3 => ∃ ε3 L3, μ ε3 L3 < μ ε' L' ∧ Grow H L H3 L3 ∧ Rel C.K L3 ε3 σ3 H3 ∧ I ε3 L3, fun σ3 H3 ⟨ε3, L3, a, b, c, d⟩ => ⟨_, a, ε3, L3, rfl, b, c, d⟩, ?_⟩
    have gg := g'.trans g2
    exact q σ' H2 _ R2 (X.grow gg) ⟨fun e l s h2 g r z => ⟨e, l, z.2, gg.trans g, r, z.1⟩, E.rt.grow gg, E.nx.grow gg, fun e l s h2 g r z => ⟨e, l, z.2, gg.trans g, r, z.1⟩⟩
  | false =>
    rw [if_neg (by decide)] at q ⊢
    exact E.nx ε' L2 σ' H2 (g'.trans g2) R2 q
end
end Z

set_option Elab.async false
set_option linter.all false
set_option maxRecDepth 100000
set_option maxHeartbeats 2000000
namespace Z
open PySem PySem.Spec PyProof.Rows L2
/-! ### sources -/
/-- a list, a tuple or a text -/
def iSq (K : PySem.W.Frag) (te : TE) : TI := fun σ H R => te σ H fun v H1 => (∃ a, v = .ref a ∧ (∃ xs, SqL K H1 a xs) ∧ R (Itl K a) H1) ∨ (∃ a, v = .ref a ∧ (∃ xs, SqT K H1 a xs) ∧ R (Itt K a) H1) ∨ ∃ x, v = .str x ∧ R (Its x) H1
theorem pi_sq {X : Cx} {tg e : Expr} {te : TE} (he : PE X e te) : PI X tg e (iSq X.K te) := by
  refine ⟨fun pins s σ H R I h => ?_⟩
  refine thn (he.run pins s σ H _ I h) fun v s1 ⟨x, H1, I1, r1, q⟩ => ?_
  rcases q with ⟨a, rfl, ⟨xs, hs⟩, q⟩ | ⟨a, rfl, ⟨xs, hs⟩, q⟩ | ⟨z, rfl, q⟩
  · obtain rfl : v = Value.ref a := r1
    obtain ⟨its, rv, pl, hz⟩ := I1.list hs
    refine wpAny_pyIter_list pl.isList ?_
    exact pi_one (tk := s1.toks) I1 _ (turn_list a _) ⟨_, Heap.get?_push_size _ rfl, rfl, rfl⟩ q
  · obtain rfl : v = Value.ref a := r1
    obtain ⟨its, rv, pl, hz⟩ := I1.tuple hs
    refine wpAny_pyIter_tuple (show s1.heap.IsTuple a its.toArray from pl) ?_
    exact pi_one (tk := s1.toks) I1 _ (turn_tuple a _) ⟨_, Heap.get?_push_size _ rfl, rfl, rfl⟩ q
  · obtain ⟨t, rfl⟩ := r1
    cases hz : z.cps.all (· < 128) with
    | false => exact wpAny_pyIter_wide hz (pi_one (tk := s1.toks) I1 _ (turn_str _ z t "str_iterator" (.inr rfl)) ⟨_, Heap.get?_push_size _ rfl, rfl, rfl⟩ q)
    | true => exact wpAny_pyIter_ascii hz (pi_one (tk := s1.toks) I1 _ (turn_str _ z t "str_ascii_iterator" (.inl rfl)) ⟨_, Heap.get?_push_size _ rfl, rfl, rfl⟩ q)
/-- one sign as data -/
def sgn (c : Nat) : PyData := .str ⟨#[c]⟩
/-- what is walked over a value, as data -/
inductive SeqOf : Rs → List PyData → Prop
  | lst (ds : List PyData) : SeqOf (.dat (.list ds)) ds
  | tup (ds : List PyData) : SeqOf (.dat (.tuple ds)) ds
  | str (x : Str) : SeqOf (.dat (.str x)) (x.cps.toList.map sgn)
  | scr (ns : List Int) : SeqOf (.scr ns) (ns.map PyData.int)
section
variable {C : Cz} {ε : Ev} {L : Led} {te : TE} {ta : TA} {q : List PyData → Led → Prop}
theorem it_list {K : PySem.W.Frag} {H : Hp} {a : Addr} {xs : List V} {ds : List PyData} (h : ∀ H', Ext (hid L H) H' → SqL K H' a xs) (hx : RpAll K (hid L H) xs ds) : ItOk K L H (Itl K a) ds := fun L' H' g l i => by
  have e : Ext (hid L H) H' := g.ext.trans hid_sub
  have hl := rpAll_len hx
  refine ⟨fun hi => ⟨xs, h _ e, by omega⟩, fun d hd => ?_⟩
  obtain ⟨v, e1, r1⟩ := rpAll_get hx hd
  refine ⟨⟨xs, v, h _ e, e1⟩, fun w H2 ⟨y1, y2⟩ => ?_⟩
  subst y1
  have := y2 xs (h _ e)
  rw [e1] at this
  cases this
  exact ⟨Grow.refl _ _, l, rp_mono g.ext r1⟩
theorem it_tup {K : PySem.W.Frag} {H : Hp} {a : Addr} {xs : List V} {ds : List PyData} (h : SqT K (hid L H) a xs) (hx : RpAll K (hid L H) xs ds) : ItOk K L H (Itt K a) ds := fun L' H' g l i => by
  have e : Ext (hid L H) H' := g.ext.trans hid_sub
  have hl := rpAll_len hx
  refine ⟨fun hi => ⟨xs, ext_t e h, by omega⟩, fun d hd => ?_⟩
  obtain ⟨v, e1, r1⟩ := rpAll_get hx hd
  refine ⟨⟨xs, v, ext_t e h, e1⟩, fun w H2 ⟨y1, y2⟩ => ?_⟩
  subst y1
  have := y2 xs (ext_t e h)
  rw [e1] at this
  cases this
  exact ⟨Grow.refl _ _, l, rp_mono g.ext r1⟩
theorem it_str {K : PySem.W.Frag} {H : Hp} (x : Str) : ItOk K L H (Its x) (x.cps.toList.map sgn) := fun L' H' g l i => by
  refine ⟨fun hi => ?_, fun d hd => ?_⟩
  · rw [List.length_map, Array.length_toList] at hi
    exact Nat.le_of_eq hi.symm
  · rw [List.getElem?_map, Array.getElem?_toList] at hd
    cases e : x.cps[i]? with
    | none =>
      rw [e] at hd
      cases hd
    | some c =>
      rw [e] at hd
      cases hd
      refine ⟨(Array.getElem?_eq_some_iff.mp e).1, fun w H2 ⟨y1, c', y2, y3⟩ => ?_⟩
      subst y1
      rw [e] at y2
      cases y2
      subst y3
      exact ⟨Grow.refl _ _, l, .str _⟩
theorem it_range {K : PySem.W.Frag} {H : Hp} (lo : Int) (n : Nat) : ItOk K L H (Itr lo n) ((List.range n).map fun i : Nat => PyData.int (lo + (i : Int))) := fun L' H' g l i => by
  refine ⟨fun hi => ?_, fun d hd => ?_⟩
  · rw [List.length_map, List.length_range] at hi
    exact Nat.le_of_eq hi.symm
  · rw [List.getElem?_map] at hd
    by_cases h : i < n
    · rw [List.getElem?_range h] at hd
      cases hd
      refine ⟨h, fun w H2 ⟨y1, y2⟩ => ?_⟩
      subst y1 y2
      exact ⟨Grow.refl _ _, l, .int _⟩
    · rw [List.getElem?_eq_none (by rw [List.length_range]; omega)] at hd
      cases hd
theorem ci_sq {K : PySem.W.Frag} (h : CP C te ε L fun r L1 => ∃ ds, SeqOf r ds ∧ q ds L1) (hK : C.K = K := by rfl) : CI C (iSq K te) ε L q := fun σ H R Rl X z => by
  subst hK
  refine h σ H _ Rl X fun v r L1 H1 g1 k1 R1 o1 ⟨ds, hs, hq⟩ => ?_
  cases hs with
  | lst =>
    cases o1 with
    | @lst a xs _ e ha => exact .inl ⟨a, rfl, ⟨xs, SqL.of (hid_sub _ _ e)⟩, z _ ds L1 H1 g1 k1 R1 (it_list (fun H' x => SqL.of (x _ _ e)) ha) hq⟩
  | tup =>
    cases o1 with
    | @tup a xs _ e ha => exact .inr (.inl ⟨a, rfl, ⟨xs, ext_t hid_sub e⟩, z _ ds L1 H1 g1 k1 R1 (it_tup e ha) hq⟩)
  | str x =>
    cases o1
    exact .inr (.inr ⟨x, rfl, z _ _ L1 H1 g1 k1 R1 (it_str x) hq⟩)
  | scr ns =>
    obtain ⟨a, e, hs⟩ := o1
    exact .inl ⟨a, e, ⟨_, ext_l hid_sub hs⟩, z _ _ L1 H1 g1 k1 R1 (it_list (fun H' x => ext_l x hs) (rpAll_ints ns)) hq⟩
theorem rsAll_int1 {K : PySem.W.Frag} {H : Hp} {vs : List V} {n : Int} (o : RsAll K L H vs [.dat (.int n)]) : vs = [.int n] := by
  cases o with
  | cons a b =>
    cases b
    cases a
    rfl
theorem rsAll_int2 {K : PySem.W.Frag} {H : Hp} {vs : List V} {n m : Int} (o : RsAll K L H vs [.dat (.int n), .dat (.int m)]) : vs = [.int n, .int m] := by
  cases o with
  | cons a b =>
    cases a
    rw [rsAll_int1 b]
theorem rsAll_int3 {K : PySem.W.Frag} {H : Hp} {vs : List V} {n m l : Int} (o : RsAll K L H vs [.dat (.int n), .dat (.int m), .dat (.int l)]) : vs = [.int n, .int m, .int l] := by
  cases o with
  | cons a b =>
    cases a
    rw [rsAll_int2 b]
def rng (lo : Int) (n : Nat) : List PyData := (List.range n).map fun i : Nat => PyData.int (lo + (i : Int))
theorem ci_range1 (h : CA C ta ε L fun rs L1 => ∃ n : Int, rs = [.dat (.int n)] ∧ (-(2 ^ 62) ≤ n ∧ n < 2 ^ 62) ∧ q (rng 0 n.toNat) L1) : CI C (iRng1 ta) ε L q := fun σ H R Rl X z =>
  h σ H _ Rl X fun vs rs L1 H1 g1 k1 R1 o1 ⟨n, e, hb, hq⟩ => by
    subst e
    exact ⟨n, rsAll_int1 o1, hb.1, hb.2, z _ _ L1 H1 g1 k1 R1 (it_range 0 _) hq⟩
theorem ci_range2 (h : CA C ta ε L fun rs L1 => ∃ n m : Int, rs = [.dat (.int n), .dat (.int m)] ∧ (-(2 ^ 62) ≤ n ∧ n < 2 ^ 62 ∧ -(2 ^ 62) ≤ m ∧ m < 2 ^ 62) ∧ q (rng n (m - n).toNat) L1) : CI C (iRng2 ta) ε L q := fun σ H R Rl X z =>
  h σ H _ Rl X fun vs rs L1 H1 g1 k1 R1 o1 ⟨n, m, e, hb, hq⟩ => by
    subst e
    exact ⟨n, m, rsAll_int2 o1, hb, z _ _ L1 H1 g1 k1 R1 (it_range n _) hq⟩
/-- a step of minus one -/
theorem it_rangeD {K : PySem.W.Frag} {H : Hp} (lo c : Int) (n : Nat) : ItOk K L H (Itc lo c n) ((List.range n).map fun i : Nat => PyData.int (lo + (i : Int) * c)) := fun L' H' g l i => by
  refine ⟨fun hi => ?_, fun d hd => ?_⟩
  · rw [List.length_map, List.length_range] at hi
    exact Nat.le_of_eq hi.symm
  · rw [List.getElem?_map] at hd
    by_cases h : i < n
    · rw [List.getElem?_range h] at hd
      cases hd
      refine ⟨h, fun w H2 ⟨y1, y2⟩ => ?_⟩
      subst y1 y2
      exact ⟨Grow.refl _ _, l, .int _⟩
    · rw [List.getElem?_eq_none (by rw [List.length_range]; omega)] at hd
      cases hd
theorem ci_rangeD (h : CA C ta ε L fun rs L1 => ∃ n m : Int, rs = [.dat (.int n), .dat (.int m), .dat (.int (-1))] ∧ (-(2 ^ 62) ≤ n ∧ n < 2 ^ 62 ∧ -(2 ^ 62) ≤ m ∧ m < 2 ^ 62) ∧
    q ((List.range (n - m).toNat).map fun i : Nat => PyData.int (n + (i : Int) * (-1))) L1) : CI C (iRng3 ta) ε L q := fun σ H R Rl X z =>
  h σ H _ Rl X fun vs rs L1 H1 g1 k1 R1 o1 ⟨n, m, e, hb, hq⟩ => by
    subst e
    exact ⟨n, m, -1, _, rsAll_int3 o1, RgC.neg hb.1 hb.2.1 hb.2.2.1 hb.2.2.2, z _ _ L1 H1 g1 k1 R1 (it_rangeD n (-1) _) hq⟩
end

/-! ### comprehensions -/
def wipeE (ε : Ev) : List Nat → Ev
  | [] => ε
  | v :: vs => (wipeE ε vs).set v none
theorem rel_none {K : PySem.W.Frag} {L : Led} {ε : Ev} {σ : L2.St} {H : Hp} (R : Rel K L ε σ H) (i : Nat) : Rel K L (ε.set i none) (σ.set i none) H := by
  refine ⟨by rw [List.length_set, List.length_set]; exact R.len, fun j s e => ?_, R.led⟩
  by_cases h : i = j
  · subst h
    by_cases hl : i < ε.length
    · rw [List.getElem?_set_self hl] at e
      cases e
    · rw [List.getElem?_eq_none (by rw [List.length_set]; omega)] at e
      cases e
  · rw [List.getElem?_set_ne h] at e
    obtain ⟨w, e2, o2⟩ := R.slot j s e
    exact ⟨w, by rw [List.getElem?_set_ne h]; exact e2, o2⟩
theorem rel_wipe {K : PySem.W.Frag} {L : Led} {ε : Ev} {σ : L2.St} {H : Hp} (R : Rel K L ε σ H) : ∀ vs : List Nat, Rel K L (wipeE ε vs) (wipe σ vs) H
  | [] => R
  | v :: vs => rel_none (rel_wipe R vs) v
/-- the target stores nothing but the block's own names -/
def GOwn (g : TG) (vs : List Nat) : Prop := ∀ v σ H (Q : L2.St → Hp → Prop), g v σ H Q → g v σ H fun σ2 H2 => wipe σ2 vs = wipe σ vs ∧ Q σ2 H2
theorem wipe_set_in {σ : L2.St} {j : Nat} {y : Option V} : ∀ {vs : List Nat}, j ∈ vs → wipe (σ.set j y) vs = wipe σ vs
  | [], h => by cases h
  | v :: vs, h => by
    unfold wipe
    by_cases e : v = j
    · subst e
      by_cases h2 : v ∈ vs
      · rw [wipe_set_in h2]
      · have : ∀ ws : List Nat, v ∉ ws → wipe (σ.set v y) ws = (wipe σ ws).set v y := by
          intro ws
          induction ws with
          | nil => intro _; rfl
          | cons u us ih =>
            intro hn
            simp only [List.mem_cons, not_or] at hn
            unfold wipe
            rw [ih hn.2, List.set_comm _ _ (Ne.symm hn.1).symm]
        rw [this vs h2, List.set_set]
    · rcases List.mem_cons.mp h with z | z
      · exact absurd z.symm e
      · rw [wipe_set_in z]
theorem gown_name {i : Nat} {vs : List Nat} (h : i ∈ vs := by decide) : GOwn (gName i) vs := fun v σ H Q q => ⟨wipe_set_in h, q⟩
theorem gown_tup2 {K : PySem.W.Frag} {i j : Nat} {vs : List Nat} (h : i ∈ vs := by decide) (h2 : j ∈ vs := by decide) : GOwn (gTup K 2 (gCons (gName i) (gCons (gName j) gNil))) vs := fun v σ H Q q => by
  obtain ⟨a, xs, e, hs, hl, v1, r1, e1, v2, r2, e2, e3, q⟩ := q
  exact ⟨a, xs, e, hs, hl, v1, r1, e1, v2, r2, e2, e3, by rw [wipe_set_in h2, wipe_set_in h], q⟩
theorem gown_tup3 {K : PySem.W.Frag} {i j l : Nat} {vs : List Nat} (h : i ∈ vs := by decide) (h2 : j ∈ vs := by decide) (h3 : l ∈ vs := by decide) : GOwn (gTup K 3 (gCons (gName i) (gCons (gName j) (gCons (gName l) gNil)))) vs := fun v σ H Q q => by
  obtain ⟨a, xs, e, hs, hl, v1, r1, e1, v2, r2, e2, v3, r3, e3, e4, q⟩ := q
  exact ⟨a, xs, e, hs, hl, v1, r1, e1, v2, r2, e2, v3, r3, e3, e4, by rw [wipe_set_in h3, wipe_set_in h2, wipe_set_in h], q⟩
theorem wipe_wipe (σ : L2.St) : ∀ vs : List Nat, wipe (wipe σ vs) vs = wipe σ vs := by
  intro vs
  apply List.ext_getElem?
  intro i
  by_cases hi : i ∈ vs
  · have key : ∀ (τ : L2.St) (ws : List Nat), i ∈ ws → (wipe τ ws)[i]? = if i < τ.length then some none else none := by
      intro τ ws
      induction ws with
      | nil => intro h; cases h
      | cons u us ih =>
        intro h
        unfold wipe
        by_cases e : u = i
        · subst e
          by_cases hl : u < τ.length
          · rw [List.getElem?_set_self (by rw [wipe_length]; exact hl), if_pos hl]
          · rw [if_neg hl, List.getElem?_eq_none (by rw [List.length_set, wipe_length]; omega)]
        · rw [List.getElem?_set_ne e]
          rcases List.mem_cons.mp h with z | z
          · exact absurd z.symm e
          · exact ih z
    rw [key _ _ hi, key _ _ hi, wipe_length]
  · have key : ∀ (τ : L2.St) (ws : List Nat), i ∉ ws → (wipe τ ws)[i]? = τ[i]? := by
      intro τ ws
      induction ws with
      | nil => intro _; rfl
      | cons u us ih =>
        intro h
        simp only [List.mem_cons, not_or] at h
        unfold wipe
        rw [List.getElem?_set_ne (Ne.symm h.1), ih h.2]
    rw [key _ _ hi, key _ _ hi]
end Z

set_option Elab.async false
set_option linter.all false
set_option maxRecDepth 100000
set_option maxHeartbeats 2000000
namespace Z
open PySem PySem.Spec PyProof.Rows L2
theorem LOk.app {K : PySem.W.Frag} {L : Led} {H : Hp} {D : Addr} {ds : List PyData} {xs : List V} {y : V} {d : PyData} (l : LOk K (L ++ [(D, .lst ds)]) H) (h : H D = some (.lst xs)) (r : Rp K (hid (L ++ [(D, .lst ds)]) H) y d) :
    LOk K (L ++ [(D, .lst (ds ++ [d]))]) (upd H D (.lst (xs ++ [y]))) := by
  have hk : (L ++ [(D, Mo.lst (ds ++ [d]))]).ks = (L ++ [(D, Mo.lst ds)]).ks := by
    unfold Led.ks
    rw [List.map_append, List.map_append]
    rfl
  have hD : D ∈ (L ++ [(D, Mo.lst ds)]).ks := by
    unfold Led.ks
    rw [List.map_append]
    exact List.mem_append_right _ List.mem_cons_self
  have ex : Ext (hid (L ++ [(D, Mo.lst ds)]) H) (hid (L ++ [(D, Mo.lst (ds ++ [d]))]) (upd H D (.lst (xs ++ [y])))) := fun a o e => by
    by_cases ha : a ∈ (L ++ [(D, Mo.lst ds)]).ks
    · rw [hid_in ha] at e
      cases e
    · rw [hid_out ha] at e
      rw [hid_out (by rw [hk]; exact ha), upd_ne (fun z : a = D => ha (by rw [z]; exact hD))]
      exact e
  have hl := l.at_ (D, .lst ds) (List.mem_append_right _ List.mem_cons_self)
  obtain ⟨ys, e1, e2⟩ : ∃ ys, H D = some (.lst ys) ∧ RpAll K (hid (L ++ [(D, Mo.lst ds)]) H) ys ds := hl
  have e3 : ys = xs := by
    rw [h] at e1
    cases e1
    rfl
  subst e3
  refine ⟨by rw [hk]; exact l.nd, fun p hp => ?_⟩
  rcases List.mem_append.mp hp with hp | hp
  · have q := l.at_ p (List.mem_append_left _ hp)
    have hn : p.1 ≠ D := fun z => by
      have nd := l.nd
      unfold Led.ks at nd
      rw [List.map_append] at nd
      exact (List.nodup_append.mp nd).2.2 p.1 (List.mem_map.mpr ⟨p, hp, rfl⟩) D List.mem_cons_self z
    obtain ⟨a, m⟩ := p
    cases m with
    | drw =>
      obtain ⟨ns, z⟩ := q
      exact ⟨ns, by rw [upd_ne hn]; exact z⟩
    | lst es =>
      obtain ⟨zs, z, w⟩ := q
      exact ⟨zs, by rw [upd_ne hn]; exact z, rpAll_mono ex w⟩
    | dct es =>
      obtain ⟨zs, z, w⟩ := q
      exact ⟨zs, by rw [upd_ne hn]; exact z, rpKv_mono ex w⟩
  · have e := List.mem_singleton.mp hp
    subst e
    exact ⟨_, upd_same, rpAll_app (rpAll_mono ex e2) (rpAll_one (rp_mono ex r))⟩
/-- a written list that is owned last is given up: it is data from now on -/
theorem LOk.drop {K : PySem.W.Frag} {L : Led} {H : Hp} {D : Addr} {m : Mo} (l : LOk K (L ++ [(D, m)]) H) : LOk K L H := by
  have ex : Ext (hid (L ++ [(D, m)]) H) (hid L H) := fun a o e => by
    by_cases ha : a ∈ (L ++ [(D, m)]).ks
    · rw [hid_in ha] at e
      cases e
    · rw [hid_out ha] at e
      rw [hid_out fun z => ha (keeps_own a z)]
      exact e
  refine ⟨?_, fun p hp => ?_⟩
  · have nd := l.nd
    unfold Led.ks at nd
    rw [List.map_append] at nd
    exact (List.nodup_append.mp nd).1
  · have q := l.at_ p (List.mem_append_left _ hp)
    obtain ⟨a, m2⟩ := p
    cases m2 with
    | drw => exact q
    | lst es =>
      obtain ⟨zs, z, w⟩ := q
      exact ⟨zs, z, rpAll_mono ex w⟩
    | dct es =>
      obtain ⟨zs, z, w⟩ := q
      exact ⟨zs, z, rpKv_mono ex w⟩
theorem ext_drop {L : Led} {H : Hp} {D : Addr} {m : Mo} : Ext (hid (L ++ [(D, m)]) H) (hid L H) := fun a o e => by
  by_cases ha : a ∈ (L ++ [(D, m)]).ks
  · rw [hid_in ha] at e
    cases e
  · rw [hid_out ha] at e
    rw [hid_out fun z => ha (keeps_own a z)]
    exact e
section
variable {C : Cz} {ε : Ev} {L : Led} {k : Rs → Led → Prop} {wi wi1 : TI} {g g1 : TG} {tt tt1 : TT} {te : TE} {vs vs1 : List Nat}
abbrev plus (L : Led) (p : Addr) (acc : List PyData) : Led := L ++ [(p, .lst acc)]
theorem plus_ks (L : Led) (p : Addr) (a b : List PyData) : (plus L p a).ks = (plus L p b).ks := by
  unfold plus Led.ks
  rw [List.map_append, List.map_append]
  rfl
theorem Grow.re {H H' : Hp} {L L' L2 : Led} (g : Grow H L H' L') (h : L'.ks = L2.ks) : Grow H L H' L2 := ⟨g.old, fun a ha => g.new a (by rw [h]; exact ha)⟩
theorem Grow.re1 {H H' : Hp} {L L' L2 : Led} (g : Grow H L H' L') (h : L.ks = L2.ks) : Grow H L2 H' L' := ⟨fun a o e n => g.old a o e (by rw [h]; exact n), fun a ha => by rw [← h]; exact g.new a ha⟩
theorem grow_app {H : Hp} {L : Led} {p : Addr} {acc acc' : List PyData} {o : HO} : Grow H (plus L p acc) (upd H p o) (plus L p acc') := by
  have hp : p ∈ (plus L p acc).ks := by
    unfold plus Led.ks
    rw [List.map_append]
    exact List.mem_append_right _ List.mem_cons_self
  exact ⟨fun a u e n => by rw [upd_ne (fun z : a = p => n (by rw [z]; exact hp))]; exact e, fun a ha => .inl (by rw [plus_ks L p acc acc']; exact ha)⟩
/-- [e for target in iter if ..]: I by the turn and the list so far -/
theorem cp_lc (h : CI C wi ε L fun ds L1 => ds.length < sizeLine ∧ ∃ I : Nat → List PyData → Prop, I 0 [] ∧
      (∀ i d acc p, ds[i]? = some d → I i acc → p ∉ L1.ks → CG (C0 C.K) g (.dat d) (wipeE ε vs) (plus L1 p acc) fun ε2 L2 => L2 = plus L1 p acc ∧
        CT (C0 C.K) tt ε2 L2 fun b L3 => L3 = plus L1 p acc ∧ if b = true then CP (C0 C.K) te ε2 L3 fun r L4 => L4 = plus L1 p acc ∧ ∃ y, r = .dat y ∧ I (i + 1) (acc ++ [y]) else I (i + 1) acc) ∧
      ∀ acc, I ds.length acc → k (.dat (.list acc)) L1) (ho : GOwn g vs) : CP C (tLc wi g tt te vs) ε L k := fun σ H Q R X z =>
  h σ H _ R X fun J ds L1 H1 g1 k1 R1 J1 ⟨hsz, I, i0, hs, hd⟩ D hD => by
    have hDn : D ∉ L1.ks := R1.led.fresh hD
    refine ⟨fun i m H' => m = ds.length - i ∧ i ≤ ds.length ∧ ∃ acc, acc.length ≤ i ∧ I i acc ∧ Grow H1 L1 H' (plus L1 D acc) ∧ LOk C.K (plus L1 D acc) H', ⟨_, rfl, Nat.zero_le _, [], Nat.le_refl _, i0, grow_own hD, R1.led.own hD .nil⟩, ?_⟩
    rintro i m H' ⟨rfl, hi, acc, hal, hI, g', l'⟩
    obtain ⟨js, jg⟩ := J1 _ H' g' l' i
    have RW : Rel C.K (plus L1 D acc) (wipeE ε vs) (wipe σ vs) H' := (rel_wipe R1 vs).grow g' keeps_own l'
    by_cases hl : i < ds.length
    · have hx : ds[i]? = some ds[i] := List.getElem?_eq_getElem hl
      obtain ⟨j1, j2⟩ := jg _ hx
      refine .inr ⟨j1, fun H2 => i + 1 ≤ ds.length ∧ ∃ acc2, acc2.length ≤ i + 1 ∧ I (i + 1) acc2 ∧ Grow H1 L1 H2 (plus L1 D acc2) ∧ LOk C.K (plus L1 D acc2) H2, fun H2 ⟨a, b⟩ => ⟨ds.length - (i + 1), by omega, rfl, a, b⟩, fun v H2 y => ?_⟩
      obtain ⟨g2, l2, rp⟩ := j2 v H2 y
      have key := hs i _ acc D hx hI hDn v (wipe σ vs) H2 (fun σ3 H3 => tt σ3 H3 fun b H4 => if b = true then te σ3 H4 fun y H5 => ∃ acc, H5 D = some (.lst acc) ∧ acc.length < sizeLine ∧ (i + 1 ≤ ds.length ∧ ∃ acc2, acc2.length ≤ i + 1 ∧ I (i + 1) acc2 ∧ Grow H1 L1 (upd H5 D (.lst (acc ++ [y]))) (plus L1 D acc2) ∧ LOk C.K (plus L1 D acc2) (upd H5 D (.lst (acc ++ [y])))) else (i + 1 ≤ ds.length ∧ ∃ acc2, acc2.length ≤ i + 1 ∧ I (i + 1) acc2 ∧ Grow H1 L1 H4 (plus L1 D acc2) ∧ LOk C.K (plus L1 D acc2) H4)) (RW.grow g2 (Keeps.refl _) l2) rp fun ε3 L3 σ3 H3 g3 k3 R3 q3 => ?_
      · have q := ho v (wipe σ vs) H2 _ key
        rw [wipe_wipe] at q
        exact q
      obtain ⟨e3, q3⟩ := q3
      subst e3
      refine q3 σ3 H3 _ R3 exOk0 fun b L4 H4 g4 k4 R4 q4 => ?_
      obtain ⟨e4, q4⟩ := q4
      subst e4
      have gg := g'.trans (g2.trans (g3.trans g4))
      cases b with
      | false =>
        rw [if_neg (by decide)] at q4 ⊢
        exact ⟨hl, acc, Nat.le_succ_of_le hal, q4, gg, R4.led⟩
      | true =>
        rw [if_pos rfl] at q4 ⊢
        refine q4 σ3 H4 _ R4 exOk0 fun w r L5 H5 g5 k5 R5 o5 q5 => ?_
        obtain ⟨e5, yd, er, q5⟩ := q5
        subst e5 er
        obtain ⟨xs, ex, hxs⟩ := R5.led.isLst (List.mem_append_right _ List.mem_cons_self)
        refine ⟨xs, ex, by rw [rpAll_len hxs]; omega, hl, acc ++ [yd], by rw [List.length_append]; exact Nat.succ_le_succ hal, q5, (gg.trans g5).trans grow_app, R5.led.app ex o5⟩
    · have e : i = ds.length := by omega
      subst e
      obtain ⟨xs, ex, hxs⟩ := l'.isLst (List.mem_append_right _ List.mem_cons_self)
      have l2 : LOk C.K L1 H' := l'.drop
      have g2 : Grow H1 L1 H' L1 := ⟨g'.old, fun a ha => .inl ha⟩
      exact .inl ⟨js rfl, z (.ref D) (.dat (.list acc)) L1 H' (g1.trans g2) k1 (R1.grow g2 (Keeps.refl _) l2) (.lst (by rw [hid_out hDn]; exact ex) (rpAll_mono ext_drop hxs)) (hd acc hI)⟩
/-- each item gives one element or none, the draws left alone -/
theorem cp_lcF (f : PyData → Option PyData) (h : CI C wi ε L fun ds L1 => ds.length < sizeLine ∧
      (∀ d ∈ ds, ∀ acc p, p ∉ L1.ks → CG (C0 C.K) g (.dat d) (wipeE ε vs) (plus L1 p acc) fun ε2 L2 => L2 = plus L1 p acc ∧
        CT (C0 C.K) tt ε2 L2 fun b L3 => L3 = plus L1 p acc ∧ if b = true then CP (C0 C.K) te ε2 L3 fun r L4 => L4 = plus L1 p acc ∧ ∃ y, r = .dat y ∧ f d = some y else f d = none) ∧
      k (.dat (.list (ds.filterMap f))) L1) (ho : GOwn g vs) : CP C (tLc wi g tt te vs) ε L k := by
  refine cp_lc ?_ ho
  refine fun σ H R Rl X z => h σ H R Rl X fun J ds L' H' g1 k1 R1 J1 ⟨a, b, c⟩ => z J ds L' H' g1 k1 R1 J1 ⟨a, fun i acc => acc = (ds.take i).filterMap f, rfl, fun i d acc p hd hI hp => ?_, fun acc hI => ?_⟩
  · have hm : d ∈ ds := List.mem_of_getElem? hd
    have ht : ds.take (i + 1) = ds.take i ++ [d] := by rw [List.take_add_one, hd] <;> rfl
    intro v σ2 H2 Q2 R2 o2 z2
    refine b d hm acc p hp v σ2 H2 Q2 R2 o2 fun ε3 L3 σ3 H3 g3 k3 R3 ⟨e3, q3⟩ => z2 ε3 L3 σ3 H3 g3 k3 R3 ⟨e3, CT.mono q3 fun bb L4 ⟨e4, q4⟩ => ⟨e4, ?_⟩⟩
    cases bb with
    | true =>
      rw [if_pos rfl] at q4 ⊢
      exact CP.mono q4 fun r L5 ⟨e5, y, er, ey⟩ => ⟨e5, y, er, (by show acc ++ [y] = (ds.take (i + 1)).filterMap f; rw [ht, List.filterMap_append, hI, List.filterMap_cons, ey]; rfl)⟩
    | false =>
      rw [if_neg (by decide)] at q4 ⊢
      show acc = (ds.take (i + 1)).filterMap f
      rw [ht, List.filterMap_append, hI, List.filterMap_cons, q4]
      show _ = _ ++ []
      rw [List.append_nil]
  · have e : acc = (ds.take ds.length).filterMap f := hI
    rw [e, List.take_length]
    exact c
end
end Z

set_option Elab.async false
set_option linter.all false
set_option maxRecDepth 100000
set_option maxHeartbeats 2000000
namespace Z
open PySem PySem.Spec PyProof.Rows L2
theorem rel_led {K : PySem.W.Frag} {L L' : Led} {ε : Ev} {σ : L2.St} {H H' : Hp} (R : Rel K L ε σ H) (g : Grow H L H' L') (k : Keeps L L') (l : LOk K L' H') : Rel K L' ε σ H' := R.grow g k l
theorem GOwn.use {g : TG} {vs : List Nat} (o : GOwn g vs) {v : V} {σ : L2.St} {H : Hp} {Q : L2.St → Hp → Prop} (q : g v (wipe σ vs) H Q) : g v (wipe σ vs) H fun σ2 H2 => wipe σ2 vs = wipe σ vs ∧ Q σ2 H2 := by
  have z := o v (wipe σ vs) H Q q
  rw [wipe_wipe] at z
  exact z
theorem keeps_plus {L : Led} {p : Addr} {a b : List PyData} : Keeps (plus L p a) (plus L p b) := fun x h => by
  rw [plus_ks L p b a]
  exact h
section
variable {C : Cz} {ε : Ev} {L : Led} {k : Rs → Led → Prop} {wi wi1 : TI} {g g1 : TG} {tt tt1 : TT} {te : TE} {vs vs1 : List Nat}
/-- [e for a in s if .. for b in t if ..]: I by the outer turn and the list so far, J by the inner one -/
theorem cp_lc2 (h : CI C wi ε L fun ds L1 => ∃ I : Nat → List PyData → Prop, I 0 [] ∧
      (∀ i d acc0 p, ds[i]? = some d → I i acc0 → p ∉ L1.ks → CG (C0 C.K) g (.dat d) (wipeE ε vs) (plus L1 p acc0) fun ε2 L2 => L2 = plus L1 p acc0 ∧
        CT (C0 C.K) tt ε2 L2 fun b L3 => L3 = plus L1 p acc0 ∧ if b = true then CI (C0 C.K) wi1 ε2 L3 fun es L4 => L4 = plus L1 p acc0 ∧ ∃ J : Nat → List PyData → Prop, J 0 acc0 ∧
          (∀ j e acc, es[j]? = some e → J j acc → CG (C0 C.K) g1 (.dat e) (wipeE ε2 vs1) (plus L1 p acc) fun ε3 L5 => L5 = plus L1 p acc ∧
            CT (C0 C.K) tt1 ε3 L5 fun b L6 => L6 = plus L1 p acc ∧ if b = true then acc.length < sizeLine ∧ CP (C0 C.K) te ε3 L6 fun r L7 => L7 = plus L1 p acc ∧ ∃ y, r = .dat y ∧ J (j + 1) (acc ++ [y]) else J (j + 1) acc) ∧
          ∀ acc, J es.length acc → I (i + 1) acc
        else I (i + 1) acc0) ∧
      ∀ acc, I ds.length acc → k (.dat (.list acc)) L1) (ho : GOwn g vs) (ho1 : GOwn g1 vs1) : CP C (tLc2 wi g tt wi1 g1 tt1 te vs vs1) ε L k := fun σ H Q R X z =>
  h σ H _ R X fun J ds L1 H1 g1' k1 R1 J1 ⟨I, i0, hs, hd⟩ D hD => by
    have hDn : D ∉ L1.ks := R1.led.fresh hD
    refine ⟨fun i m H' => m = ds.length - i ∧ i ≤ ds.length ∧ ∃ acc, I i acc ∧ Grow H1 L1 H' (plus L1 D acc) ∧ LOk C.K (plus L1 D acc) H', ⟨_, rfl, Nat.zero_le _, [], i0, grow_own hD, R1.led.own hD .nil⟩, ?_⟩
    rintro i m H' ⟨rfl, hi, acc, hI, g', l'⟩
    obtain ⟨js, jg⟩ := J1 _ H' g' l' i
    have RW : Rel C.K (plus L1 D acc) (wipeE ε vs) (wipe σ vs) H' := (rel_wipe R1 vs).grow g' keeps_own l'
    by_cases hl : i < ds.length
    · have hx : ds[i]? = some ds[i] := List.getElem?_eq_getElem hl
      obtain ⟨j1, j2⟩ := jg _ hx
      refine .inr ⟨j1, fun H2 => i + 1 ≤ ds.length ∧ ∃ acc2, I (i + 1) acc2 ∧ Grow H1 L1 H2 (plus L1 D acc2) ∧ LOk C.K (plus L1 D acc2) H2, fun H2 ⟨a, b⟩ => ⟨ds.length - (i + 1), by omega, rfl, a, b⟩, fun v H2 y => ?_⟩
      obtain ⟨g2, l2, rp⟩ := j2 v H2 y
      refine ho.use ?_
      refine hs i _ acc D hx hI hDn v (wipe σ vs) H2 _ (RW.grow g2 (Keeps.refl _) l2) rp fun ε3 L3 σ3 H3 g3 k3 R3 ⟨e3, q3⟩ => ?_
      subst e3
      refine q3 σ3 H3 _ R3 exOk0 fun b L4 H4 g4 k4 R4 ⟨e4, q4⟩ => ?_
      subst e4
      have gg := g'.trans (g2.trans (g3.trans g4))
      cases b with
      | false =>
        rw [if_neg (by decide)] at q4 ⊢
        exact ⟨hl, acc, q4, gg, R4.led⟩
      | true =>
        rw [if_pos rfl] at q4 ⊢
        refine q4 σ3 H4 _ R4 exOk0 fun J2 es L5 H5 g5 k5 R5 JO ⟨e5, Iv, v0, vs', vd⟩ => ?_
        subst e5
        have gg5 := gg.trans g5
        refine ⟨fun j m H' => m = es.length - j ∧ j ≤ es.length ∧ ∃ acc2, Iv j acc2 ∧ Grow H5 (plus L1 D acc) H' (plus L1 D acc2) ∧ LOk C.K (plus L1 D acc2) H', ⟨_, rfl, Nat.zero_le _, acc, v0, Grow.refl _ _, R5.led⟩, ?_⟩
        rintro j m H' ⟨rfl, hj, acc2, hV, g', l'⟩
        obtain ⟨js', jg'⟩ := JO _ H' g' l' j
        have RW5 : Rel C.K (plus L1 D acc2) (wipeE ε3 vs1) (wipe σ3 vs1) H' := (rel_wipe R5 vs1).grow g' keeps_plus l'
        by_cases hl2 : j < es.length
        · have hx2 : es[j]? = some es[j] := List.getElem?_eq_getElem hl2
          obtain ⟨j3, j4⟩ := jg' _ hx2
          refine .inr ⟨j3, fun H2 => j + 1 ≤ es.length ∧ ∃ acc3, Iv (j + 1) acc3 ∧ Grow H5 (plus L1 D acc) H2 (plus L1 D acc3) ∧ LOk C.K (plus L1 D acc3) H2, fun H2 ⟨a, b⟩ => ⟨es.length - (j + 1), by omega, rfl, a, b⟩, fun v H2 y => ?_⟩
          obtain ⟨g7, l7, rp7⟩ := j4 v H2 y
          refine ho1.use ?_
          refine vs' j _ acc2 hx2 hV v (wipe σ3 vs1) H2 _ (RW5.grow g7 (Keeps.refl _) l7) rp7 fun ε6 L6 σ6 H6 g6 k6 R6 ⟨e6, q6⟩ => ?_
          subst e6
          refine q6 σ6 H6 _ R6 exOk0 fun b L8 H8 g8 k8 R8 ⟨e8, q8⟩ => ?_
          subst e8
          have gg8 := g'.trans (g7.trans (g6.trans g8))
          cases b with
          | false =>
            rw [if_neg (by decide)] at q8 ⊢
            exact ⟨hl2, acc2, q8, gg8, R8.led⟩
          | true =>
            rw [if_pos rfl] at q8 ⊢
            refine q8.2 σ6 H8 _ R8 exOk0 fun w r L9 H9 g9 k9 R9 o9 ⟨e9, yd, er, q9⟩ => ?_
            subst e9 er
            obtain ⟨xs, ex, hxs⟩ := R9.led.isLst (List.mem_append_right _ List.mem_cons_self)
            exact ⟨xs, ex, by rw [rpAll_len hxs]; exact q8.1, hl2, acc2 ++ [yd], q9, (gg8.trans g9).trans grow_app, R9.led.app ex o9⟩
        · have e : j = es.length := by omega
          subst e
          exact .inl ⟨js' rfl, hl, acc2, vd acc2 hV, gg5.trans g', l'⟩
    · have e : i = ds.length := by omega
      subst e
      obtain ⟨xs, ex, hxs⟩ := l'.isLst (List.mem_append_right _ List.mem_cons_self)
      have l2 : LOk C.K L1 H' := l'.drop
      have g2 : Grow H1 L1 H' L1 := ⟨g'.old, fun a ha => .inl ha⟩
      exact .inl ⟨js rfl, z (.ref D) (.dat (.list acc)) L1 H' (g1'.trans g2) k1 (R1.grow g2 (Keeps.refl _) l2) (.lst (by rw [hid_out hDn]; exact ex) (rpAll_mono ext_drop hxs)) (hd acc hI)⟩
/-- the same, the list told as a function: f of both items -/
theorem cp_lc2F (es : PyData → List PyData) (f : PyData → PyData → Option PyData) (h : CI C wi ε L fun ds L1 => (ds.flatMap fun d => (es d).filterMap (f d)).length < sizeLine ∧
      (∀ d ∈ ds, ∀ acc p, p ∉ L1.ks → CG (C0 C.K) g (.dat d) (wipeE ε vs) (plus L1 p acc) fun ε2 L2 => L2 = plus L1 p acc ∧
        CI (C0 C.K) wi1 ε2 L2 fun es' L4 => L4 = plus L1 p acc ∧ es' = es d ∧
          (∀ e ∈ es d, ∀ acc, CG (C0 C.K) g1 (.dat e) (wipeE ε2 vs1) (plus L1 p acc) fun ε3 L5 => L5 = plus L1 p acc ∧
            CT (C0 C.K) tt1 ε3 L5 fun b L6 => L6 = plus L1 p acc ∧ if b = true then CP (C0 C.K) te ε3 L6 fun r L7 => L7 = plus L1 p acc ∧ ∃ y, r = .dat y ∧ f d e = some y else f d e = none)) ∧
      k (.dat (.list (ds.flatMap fun d => (es d).filterMap (f d)))) L1) (ho : GOwn g vs) (ho1 : GOwn g1 vs1) : CP C (tLc2 wi g tYes wi1 g1 tt1 te vs vs1) ε L k := by
  refine cp_lc2 ?_ ho ho1
  refine fun σ H R Rl X z => h σ H R Rl X fun J ds L' H' g1' k1 R1 J1 ⟨a, b, c⟩ => z J ds L' H' g1' k1 R1 J1 ⟨fun i acc => acc = (ds.take i).flatMap fun d => (es d).filterMap (f d), rfl, fun i d acc0 p hd hI hp => ?_, fun acc hI => ?_⟩
  · have hm : d ∈ ds := List.mem_of_getElem? hd
    have ht : ds.take (i + 1) = ds.take i ++ [d] := by rw [List.take_add_one, hd] <;> rfl
    have hz : acc0.length + ((es d).filterMap (f d)).length < sizeLine := by
      have e1 : acc0 = (ds.take i).flatMap fun d => (es d).filterMap (f d) := hI
      have e2 : (ds.take i ++ [d] ++ ds.drop (i + 1)) = ds := by rw [← ht]; exact List.take_append_drop _ _
      have e3 : (ds.flatMap fun d => (es d).filterMap (f d)).length = acc0.length + ((es d).filterMap (f d)).length + ((ds.drop (i + 1)).flatMap fun d => (es d).filterMap (f d)).length := by
        rw [← e2, List.flatMap_append, List.flatMap_append, List.length_append, List.length_append, ← e1]
        rw [e2]
        simp
      omega
    intro v σ2 H2 Q2 R2 o2 z2
    refine b d hm acc0 p hp v σ2 H2 Q2 R2 o2 fun ε3 L3 σ3 H3 g3 k3 R3 ⟨e3, q3⟩ => z2 ε3 L3 σ3 H3 g3 k3 R3 ⟨e3, ?_⟩
    intro σ4 H4 Q4 R4 X4 z4
    refine z4 true L3 H4 (Grow.refl _ _) (Keeps.refl _) R4 ⟨e3, ?_⟩
    rw [if_pos rfl]
    intro σ5 H5 Rr5 R5 X5 z5
    refine q3 σ5 H5 Rr5 R5 X5 fun J5 es5 L6 H6 g6 k6 R6 J6 ⟨e6, ee, b6⟩ => z5 J5 es5 L6 H6 g6 k6 R6 J6 ⟨e6, ?_⟩
    subst ee
    refine ⟨fun j acc => acc = acc0 ++ ((es d).take j).filterMap (f d), by simp, fun j e acc he hJ => ?_, fun acc hJ => ?_⟩
    · have hme : e ∈ es d := List.mem_of_getElem? he
      have ht2 : (es d).take (j + 1) = (es d).take j ++ [e] := by rw [List.take_add_one, he] <;> rfl
      intro v7 σ7 H7 Q7 R7 o7 z7
      refine b6 e hme acc v7 σ7 H7 Q7 R7 o7 fun ε8 L8 σ8 H8 g8 k8 R8 ⟨e8, q8⟩ => z7 ε8 L8 σ8 H8 g8 k8 R8 ⟨e8, CT.mono q8 fun bb L9 ⟨e9, q9⟩ => ⟨e9, ?_⟩⟩
      have hJ' : acc = acc0 ++ ((es d).take j).filterMap (f d) := hJ
      cases bb with
      | true =>
        rw [if_pos rfl] at q9 ⊢
        refine ⟨?_, CP.mono q9 fun r L5 ⟨e5, y, er, ey⟩ => ⟨e5, y, er, ?_⟩⟩
        · have : (((es d).take j).filterMap (f d)).length ≤ ((es d).filterMap (f d)).length := ((List.take_sublist j (es d)).filterMap (f d)).length_le
          rw [hJ', List.length_append]
          omega
        · show acc ++ [y] = acc0 ++ ((es d).take (j + 1)).filterMap (f d)
          rw [ht2, List.filterMap_append, hJ', List.filterMap_cons, ey, List.append_assoc]
          rfl
      | false =>
        rw [if_neg (by decide)] at q9 ⊢
        show acc = acc0 ++ ((es d).take (j + 1)).filterMap (f d)
        rw [ht2, List.filterMap_append, hJ', List.filterMap_cons, q9]
        show _ = acc0 ++ (_ ++ [])
        rw [List.append_nil]
    · have hJ' : acc = acc0 ++ ((es d).take (es d).length).filterMap (f d) := hJ
      show acc = (ds.take (i + 1)).flatMap fun d => (es d).filterMap (f d)
      have hI' : acc0 = (ds.take i).flatMap fun d => (es d).filterMap (f d) := hI
      rw [hJ', List.take_length, ht, List.flatMap_append, hI', List.flatMap_singleton]
  · have e : acc = (ds.take ds.length).flatMap fun d => (es d).filterMap (f d) := hI
    rw [e, List.take_length]
    exact c
end
end Z

set_option Elab.async false
set_option linter.all false
set_option maxRecDepth 100000
set_option maxHeartbeats 2000000
namespace Z
open PySem PySem.Spec PyProof.Rows L2
/-! ### enumerate of a list, a tuple, a text -/
theorem meets_enum1 {v : Value} {o : Obj} {Hs : Heap → Prop} (B : Begins v o Hs) :
    Meets (Builtin.«enumerate.__new__» ⟨[.type "enumerate", v], []⟩) (fun _ R s => Hs s.heap ∧
      R (.ok (.ret (.ref (s.heap.push o).objs.size))) { s with heap := (s.heap.push o).push { cls := .type "enumerate", data := .fields #[.none, .bool false, .ref s.heap.objs.size, rawInt 0, .none, .none] } }) :=
  .of_wp fun prog w A R s hh => by
    obtain ⟨hp, g, d, tk, os⟩ := s
    obtain ⟨hs, hr⟩ := hh
    have hsub := sub_enumerate
    have it : ∀ {A' : Around} {E : Value → Shared → Prop} {Q : Value → Shared → Prop}, Q (.ref hp.objs.size) ⟨hp.push o, g, d, tk, os⟩ → wpAny (model prog w) A' (pyIter v) Q E ⟨hp, g, d, tk, os⟩ :=
      fun q => B.iter prog w _ _ ⟨hp, g, d, tk, os⟩ _ hs q
    wp_walk using it
    refine wpAny_stack_any fun st => wpAny_pure ?_
    split
    · rename_i c _ _ _ _ _
      cases (c == Value.type "enumerate") <;> (wp_walk using it; exact ⟨_, rfl, hr⟩)
    · wp_walk using it
      exact ⟨_, rfl, hr⟩
theorem enum1_begins {prog : Program} {w : World} {A : Around} {E : Value → Shared → Prop} {s : Shared} {v : Value} {o : Obj} {Hs : Heap → Prop} {Q : Value → Shared → Prop} (B : Begins v o Hs) (h1 : Hs s.heap)
    (h : ∀ h', IsEnum h' (s.heap.objs.size + 1) s.heap.objs.size 0 .none → h'.get? s.heap.objs.size = some o → h'.objs.size = s.heap.objs.size + 2 → (∀ b o, s.heap.get? b = some o → h'.get? b = some o) → Q (.ref (s.heap.objs.size + 1)) { s with heap := h' }) :
    wpAny (model prog w) A (call (.type "enumerate") [v]) Q E s := by
  refine callType_new F.called_enumerate (by decide) (F.typeCall_enumerate_1 _) (F.newCall_enumerate_1 _) (fun obj => F.args_object_init_2 obj _) F.entry_enumerate_new (meets_enum1 B) ⟨h1, ?_⟩
  have sz : (s.heap.push o).objs.size = s.heap.objs.size + 1 := Heap.size_push ..
  show _ ∧ _
  rw [sz]
  have en : IsEnum ((s.heap.push o).push { cls := .type "enumerate", data := .fields #[.none, .bool false, .ref s.heap.objs.size, rawInt 0, .none, .none] }) (s.heap.objs.size + 1) s.heap.objs.size 0 .none := by
    have q := Heap.get?_push_size (s.heap.push o) (o := { cls := .type "enumerate", data := .fields #[.none, .bool false, .ref s.heap.objs.size, rawInt 0, .none, .none] }) rfl
    rw [sz] at q
    exact q
  exact ⟨⟨_, en, rfl⟩, h _ en (Heap.get?_push_of_some _ (Heap.get?_push_size _ B.free)) (by rw [Heap.size_push, sz]) fun b u x => Heap.get?_push_of_some _ (Heap.get?_push_of_some _ x)⟩
/-- what is asked of a walked value: where its iterator's own cell stands (Si), what stands by itself (Hs) -/
structure Src (P : Nat → Value → Prop) (n : Nat) (it : Addr) (fs : List Addr) (Si : Nat → Heap → Prop) (Hs : Heap → Prop) : Prop where
  dr : ∀ (prog : Program) (w : World) (A : Around), A.handled = none → Draws prog w A it (it :: fs) n P fun i h => Si i h ∧ Hs h
  keep : ∀ i h h', Si i h → (∀ o, h.get? it = some o → h'.get? it = some o) → Si i h'
  live : ∀ i h, Si i h → ∃ o, h.get? it = some o ∧ ∀ v, o.data ≠ .cell v
/-- an iterator of pairs over a value: at each turn the value is told again -/
structure ItE (K : PySem.W.Frag) (J : It) (it : Addr) (fs : List Addr) (Si : Nat → Heap → Prop) : Prop where
  go : ∀ (X : Cx), X.K = K → ∀ pins σ H s i, Inv X pins σ H s → J.go i H → ∃ P n Hs, Src P n it fs Si Hs ∧ i < n ∧ Hs s.heap ∧ ∀ u, P i u → ∃ x, RelV x u ∧ ∀ T, H T = none → J.yld i H (.ref T) (upd H T (.tup [.int (i : Int), x]))
  stop : ∀ (X : Cx), X.K = K → ∀ pins σ H s i, Inv X pins σ H s → J.stop i H → ∃ P Hs, Src P i it fs Si Hs ∧ Hs s.heap
  keep : ∀ i h h', Si i h → (∀ o, h.get? it = some o → h'.get? it = some o) → Si i h'
  live : ∀ i h, Si i h → ∃ o, h.get? it = some o ∧ ∀ v, o.data ≠ .cell v
theorem turn_enumG {P : Program} {w : World} {K : PySem.W.Frag} {elts : List Expr} {kk : Nat} {tpos : Pos} {J : It} {e it : Addr} {fs : List Addr} {Si : Nat → Heap → Prop} (Y : ItE K J it fs Si) (hei : e ≠ it) (hef : e ∉ fs) :
    Turn P w K (.Tuple elts kk tpos) J [e, it] e (fun i h => (∃ old, IsEnum h e it ((i : Nat) : Int) old) ∧ Si i h) where
  mem := by simp
  obj := fun i h st b hb => by
    obtain ⟨⟨old, he⟩, si⟩ := st
    rcases List.mem_cons.mp hb with z | z
    · subst z
      exact ⟨_, he, fun v q => nomatch q⟩
    · rw [List.mem_singleton.mp z]
      exact Y.live i h si
  keep := fun i h h' st k => let ⟨⟨old, he⟩, si⟩ := st; ⟨⟨old, k e (by simp) _ he⟩, Y.keep i h h' si fun o q => k it (by simp) o q⟩
  item := by
    intro X hP hw hK hc i pins s σ H E I hf st hg
    subst hP hw
    obtain ⟨⟨old, he⟩, si⟩ := st
    obtain ⟨Pi, n, Hs, S, hi, hs, hy⟩ := Y.go X hK pins σ H s i I hg
    have G := GoesN.enumFrom (elts := elts) (x1 := kk) (pos := tpos) 0 (S.dr X.prog X.w X.A.in1 (I.ok.hd hc)) e hei (by simp only [List.mem_cons, not_or]; exact ⟨hei, hef⟩) List.mem_cons_self
    have hel : e < s.heap.objs.size := Heap.lt_size he
    have hil : it < s.heap.objs.size := by obtain ⟨o, q, _⟩ := Y.live i _ si; exact Heap.lt_size q
    refine wpAny_mono (G.goes i s (fun u s2 => ∃ x H', Inv X pins σ H' s2 ∧ RelV x u ∧ J.yld i H x H' ∧ ((∃ old, IsEnum s2.heap e it ((i + 1 : Nat) : Int) old) ∧ Si (i + 1) s2.heap) ∧ ∀ b ∈ [e, it], H' b = none) E hi ⟨⟨old, by rw [Int.zero_add]; exact he⟩, si, hs⟩ fun v h' tk yv st' hk _ => ?_) (fun r s1 ⟨v, a, b⟩ => ⟨v, a, b⟩) fun _ _ z => z
    obtain ⟨T, t, u, rfl, hT, hp, hTup⟩ := yv
    obtain ⟨x, rx, hyld⟩ := hy u hp
    have fT : H T = none := I.hok.fresh hT
    have new : ObjOk X.prog X.w (upd H T (.tup [.int (i : Nat), x])) h' T (.tup [.int (i : Nat), x]) := by
      refine ⟨by show 2 ≤ sizeLine; decide, [.int (0 + (i : Int)) t, u], .cons ⟨t, by rw [Int.zero_add]⟩ (.cons rx .nil), hTup⟩
    have I1 : Inv X pins σ (upd H T (.tup [.int (i : Nat), x])) { s with heap := h', toks := tk } := I.turnedNew (ch := [e, it]) (fun b ob hb q => hk b ob hb q) hf hT new
    refine ⟨.ref T, _, I1, rfl, hyld T fT, ⟨?_, st'.2.1⟩, fun b hb => ?_⟩
    · obtain ⟨⟨old', q⟩, _⟩ := st'
      rw [Int.zero_add] at q
      exact ⟨old', q⟩
    · have hb' : b < s.heap.objs.size := by
        rcases List.mem_cons.mp hb with z | z
        · rw [z]; exact hel
        · rw [List.mem_singleton.mp z]; exact hil
      rw [upd_ne (Nat.ne_of_lt (Nat.lt_of_lt_of_le hb' hT))]
      exact (hf b hb).1
  done := by
    intro X hP hw hK hc i pins s σ H E I hf st hg
    subst hP hw
    obtain ⟨⟨old, he⟩, si⟩ := st
    obtain ⟨Pi, Hs, S, hs⟩ := Y.stop X hK pins σ H s i I hg
    have G := GoesN.enumFrom (elts := elts) (x1 := kk) (pos := tpos) 0 (S.dr X.prog X.w X.A.in1 (I.ok.hd hc)) e hei (by simp only [List.mem_cons, not_or]; exact ⟨hei, hef⟩) List.mem_cons_self
    exact G.stops s (fun s1 => Inv X pins σ H s1) E ⟨⟨old, by rw [Int.zero_add]; exact he⟩, si, hs⟩ fun h' tk hk _ => I.turnedL (ch := [e, it]) (fun b ob hb q => hk b ob hb q) hf
  self := fun A i s Q E st h => let ⟨⟨_, he⟩, _⟩ := st; wpAny_pyIter_enum he h

/-! the three kinds of sources -/
/-- a value that is walked: a list, a tuple, a text; xs its items -/
inductive Kd where
  | l (a : Addr) | t (a : Addr) | s (x : Str)
def Kd.v : Kd → V
  | .l a => .ref a
  | .t a => .ref a
  | .s x => .str x
/-- its items at H -/
def Kd.At (K : PySem.W.Frag) (H : Hp) (xs : List V) : Kd → Prop
  | .l a => SqL K H a xs
  | .t a => SqT K H a xs
  | .s x => xs = x.cps.toList.map fun c => V.str ⟨#[c]⟩
def Kd.fs : Kd → List Addr
  | .l a => [a]
  | .t a => [a]
  | .s _ => []
/-- its iterator's own cell at turn i -/
def Kd.Si (it : Addr) (k : Kd) (u : Value) (i : Nat) (h : Heap) : Prop := match k with
  | .l a => it ≠ a ∧ h.IsListIter it a i
  | .t a => it ≠ a ∧ h.IsTupleIter it a i
  | .s x => ∃ t, u = .str x t ∧ h.IsStrIter it (strIterType x) x t i
theorem kd_src {X : Cx} {pins : List (Addr × Obj)} {σ : L2.St} {H : Hp} {s : Shared} {xs : List V} (k : Kd) (u : Value) (ru : RelV k.v u) (it : Addr) (hne : ∀ a ∈ k.fs, it ≠ a) (I : Inv X pins σ H s) (h : k.At X.K H xs) :
    ∃ (P : Nat → Value → Prop) (Hs : Heap → Prop) (o : Obj), Begins u o Hs ∧ Hs s.heap ∧ (∀ h', h'.get? it = some o → k.Si it u 0 h') ∧ Src P xs.length it k.fs (k.Si it u) Hs ∧ ∀ i u, P i u → ∃ x, RelV x u ∧ xs[i]? = some x := by
  have hget : ∀ {its : List Value}, Vals xs its → ∀ (i : Nat) (u : Value), its.toArray[i]? = some u → ∃ x, RelV x u ∧ xs[i]? = some x := fun {its} rv i u e => by
    have hl := rv.length
    have e' : its[i]? = some u := by simpa using e
    have hi : i < xs.length := by rw [hl]; exact (List.getElem?_eq_some_iff.mp e').1
    obtain ⟨w, e2, r2⟩ := rv.get (List.getElem?_eq_getElem hi)
    rw [e'] at e2
    cases e2
    exact ⟨_, r2, List.getElem?_eq_getElem hi⟩
  cases k with
  | l a =>
    obtain rfl : u = Value.ref a := ru
    have hn : it ≠ a := hne a List.mem_cons_self
    obtain ⟨its, rv, p, hz⟩ := I.list h
    have hl : xs.length = its.toArray.size := by rw [List.size_toArray]; exact rv.length
    refine ⟨fun i u => its.toArray[i]? = some u, fun h => h.IsList a its.toArray, _, begins_list a its.toArray, p.isList, fun h' e => ⟨hn, _, e, rfl, rfl⟩, ?_, hget rv⟩
    rw [hl]
    refine ⟨fun prog w A hA => ?_, fun i h h' st hk => ⟨st.1, st.2.at fun o q => hk o q⟩, fun i h st => ?_⟩
    · have D := Draws.list (prog := prog) (w := w) hA it a (Ne.symm hn) its.toArray
      exact ⟨fun i h st => D.live i h ⟨st.1.2, st.2⟩, fun i h h' st hk => ⟨⟨st.1.1, (D.frame i h h' ⟨st.1.2, st.2⟩ hk).1⟩, (D.frame i h h' ⟨st.1.2, st.2⟩ hk).2⟩, fun i s Q E hi st q => D.item i s Q E hi ⟨st.1.2, st.2⟩ fun x h' tk p st' => q x h' tk p ⟨⟨hn, st'.1⟩, st'.2⟩, fun s Q E st q => D.done s Q E ⟨st.1.2, st.2⟩ q⟩
    · obtain ⟨_, o, ho, hc, hd⟩ := st
      exact ⟨o, ho, fun v q => by rw [hd] at q; cases q⟩
  | t a =>
    obtain rfl : u = Value.ref a := ru
    have hn : it ≠ a := hne a List.mem_cons_self
    obtain ⟨its, rv, p, hz⟩ := I.tuple h
    have hl : xs.length = its.toArray.size := by rw [List.size_toArray]; exact rv.length
    refine ⟨fun i u => its.toArray[i]? = some u, fun h => h.IsTuple a its.toArray, _, begins_tuple a its.toArray, p, fun h' e => ⟨hn, _, e, rfl, rfl⟩, ?_, hget rv⟩
    rw [hl]
    refine ⟨fun prog w A hA => ?_, fun i h h' st hk => ⟨st.1, st.2.at fun o q => hk o q⟩, fun i h st => ?_⟩
    · have D := Draws.tuple (prog := prog) (w := w) hA it a (Ne.symm hn) its.toArray
      exact ⟨fun i h st => D.live i h ⟨st.1.2, st.2⟩, fun i h h' st hk => ⟨⟨st.1.1, (D.frame i h h' ⟨st.1.2, st.2⟩ hk).1⟩, (D.frame i h h' ⟨st.1.2, st.2⟩ hk).2⟩, fun i s Q E hi st q => D.item i s Q E hi ⟨st.1.2, st.2⟩ fun x h' tk p st' => q x h' tk p ⟨⟨hn, st'.1⟩, st'.2⟩, fun s Q E st q => D.done s Q E ⟨st.1.2, st.2⟩ q⟩
    · obtain ⟨_, o, ho, hc, hd⟩ := st
      exact ⟨o, ho, fun v q => by rw [hd] at q; cases q⟩
  | s x =>
    obtain ⟨t, rfl⟩ := ru
    have hx : xs = x.cps.toList.map fun c => V.str ⟨#[c]⟩ := h
    have hl : xs.length = x.cps.size := by rw [hx, List.length_map, Array.length_toList]
    refine ⟨fun i v => ∃ c u, x.cps[i]? = some c ∧ v = .str ⟨#[c]⟩ u, fun _ => True, _, begins_text x t, trivial, fun h' e => ⟨t, rfl, _, e, rfl, rfl⟩, ?_, fun i u ⟨c, w, e, q⟩ => ?_⟩
    · rw [hl]
      refine ⟨fun prog w A hA => ?_, fun i h h' st hk => let ⟨t', a, b⟩ := st; let ⟨o, ho, hc, hd⟩ := b; ⟨t', a, o, hk o ho, hc, hd⟩, fun i h st => ?_⟩
      · have D := Draws.text (prog := prog) (w := w) hA it x t
        have of : ∀ {i h}, (Kd.s x).Si it (.str x t) i h → h.IsStrIter it (strIterType x) x t i := fun {i h} st => by
          obtain ⟨t', a, b⟩ := st
          cases a
          exact b
        exact ⟨fun i h st => D.live i h (of st.1), fun i h h' st hk => ⟨⟨t, rfl, D.frame i h h' (of st.1) hk⟩, trivial⟩, fun i s Q E hi st q => D.item i s Q E hi (of st.1) fun x h' tk p st' => q x h' tk p ⟨⟨t, rfl, st'⟩, trivial⟩, fun s Q E st q => D.done s Q E (of st.1) q⟩
      · obtain ⟨t', _, o, ho, hc, hd⟩ := st
        exact ⟨o, ho, fun v q => by rw [hd] at q; cases q⟩
    · subst q
      refine ⟨.str ⟨#[c]⟩, ⟨w, rfl⟩, ?_⟩
      rw [hx, List.getElem?_map, Array.getElem?_toList, e]
      rfl
end Z

set_option Elab.async false
set_option linter.all false
set_option maxRecDepth 100000
set_option maxHeartbeats 2000000
namespace Z
open PySem PySem.Spec PyProof.Rows L2
theorem Kd.lt {X : Cx} {pins : List (Addr × Obj)} {σ : L2.St} {H : Hp} {s : Shared} {xs : List V} (k : Kd) (I : Inv X pins σ H s) (h : k.At X.K H xs) : ∀ b ∈ k.fs, b < s.heap.objs.size := fun b hb => by
  cases k with
  | l a =>
    rw [List.mem_singleton.mp hb]
    obtain ⟨its, _, p, _⟩ := I.list h
    exact p.lt
  | t a =>
    rw [List.mem_singleton.mp hb]
    obtain ⟨its, _, p, _⟩ := I.tuple h
    exact p.lt
  | s x => cases hb
/-- pairs of a place and an item -/
def ItEk (K : PySem.W.Frag) (k : Kd) (xs : List V) : It :=
  ⟨fun i H => k.At K H xs ∧ i < xs.length, fun i H v H' => ∃ T x, v = .ref T ∧ H T = none ∧ H' = upd H T (.tup [.int (i : Int), x]) ∧ xs[i]? = some x, fun i H => k.At K H xs ∧ i = xs.length⟩
theorem itE_ok {K : PySem.W.Frag} (k : Kd) (u : Value) (ru : RelV k.v u) (xs : List V) (it : Addr) (hne : ∀ a ∈ k.fs, it ≠ a) : ItE K (ItEk K k xs) it k.fs (k.Si it u) where
  go := fun X hK pins σ H s i I hg => by
    subst hK
    obtain ⟨P, Hs, o, _, hs, _, S, get⟩ := kd_src k u ru it hne I hg.1
    refine ⟨P, xs.length, Hs, S, hg.2, hs, fun u p => ?_⟩
    obtain ⟨x, rx, e⟩ := get i u p
    exact ⟨x, rx, fun T hT => ⟨T, x, rfl, hT, rfl, e⟩⟩
  stop := fun X hK pins σ H s i I hg => by
    subst hK
    obtain ⟨P, Hs, o, _, hs, _, S, get⟩ := kd_src k u ru it hne I hg.1
    exact ⟨P, Hs, by rw [hg.2]; exact S, hs⟩
  keep := fun i h h' st hk => by
    cases k with
    | l a => exact ⟨st.1, st.2.at fun o q => hk o q⟩
    | t a => exact ⟨st.1, st.2.at fun o q => hk o q⟩
    | s x =>
      obtain ⟨t', a, o, ho, hc, hd⟩ := st
      exact ⟨t', a, o, hk o ho, hc, hd⟩
  live := fun i h st => by
    cases k with
    | l a =>
      obtain ⟨_, o, ho, hc, hd⟩ := st
      exact ⟨o, ho, fun v q => by rw [hd] at q; cases q⟩
    | t a =>
      obtain ⟨_, o, ho, hc, hd⟩ := st
      exact ⟨o, ho, fun v q => by rw [hd] at q; cases q⟩
    | s x =>
      obtain ⟨t', _, o, ho, hc, hd⟩ := st
      exact ⟨o, ho, fun v q => by rw [hd] at q; cases q⟩
def iEn (K : PySem.W.Frag) (ta : TA) : TI := fun σ H R => ta σ H fun vs H1 => ∃ (k : Kd) (xs : List V), vs = [k.v] ∧ k.At K H1 xs ∧ R (ItEk K k xs) H1
theorem pi_en {X : Cx} {e : Expr} {ta : TA} {p pos tpos : Pos} {elts : List Expr} {kk : Nat} (hg : Gl X "enumerate") (hm : X.mg "enumerate" = none) (ha : PA X [e] ta) (hs : starEach [e] X.env = [(false, eval e X.env)] := by rfl) :
    PI X (.Tuple elts kk tpos) (.Call (.Name "enumerate" p) [e] [] pos) (iEn X.K ta) := by
  refine ⟨fun pins s σ H R I h => ?_⟩
  refine Call_ (ld_blt I hg hm boot_enumerate (PyProof.Rows.callWith_type1 (thn (ha.run pos pins s σ H _ I h) fun us s1 ⟨vs, H1, I1, r1, q1⟩ => ?_) hs rfl))
  obtain ⟨k, xs, ex, hat, q⟩ := q1
  subst ex
  obtain ⟨u, rfl, r⟩ := Vals.one r1
  · skip
    have hne : ∀ a ∈ k.fs, s1.heap.objs.size ≠ a := fun a ha => Nat.ne_of_gt (k.lt I1 hat a ha)
    obtain ⟨P, Hs, o, B, hs', init, S, get⟩ := kd_src k u r s1.heap.objs.size hne I1 hat
    refine enum1_begins B hs' fun h' he hit hsz hk => wpAny_pyIter_enum he ?_
    have I2 : Inv X pins σ H1 { s1 with heap := h' } := I1.kept (t' := s1.toks) hk
    refine ⟨s1.heap.objs.size + 1, [s1.heap.objs.size + 1, s1.heap.objs.size], _, _, H1, rfl, I2, turn_enumG (itE_ok k u r xs s1.heap.objs.size hne) (Nat.succ_ne_self _) (fun hm => absurd (k.lt I1 hat _ hm) (Nat.not_lt.mpr (Nat.le_succ _))), ⟨⟨.none, he⟩, init h' hit⟩, fun b hb => ?_, q⟩
    have hle : s1.heap.objs.size ≤ b := by
      rcases List.mem_cons.mp hb with z | z
      · rw [z]
        exact Nat.le_succ _
      · rw [List.mem_singleton.mp z]
        exact Nat.le_refl _
    exact I1.fpOk hle (I1.hok.fresh hle)

/-! ### zip of two -/
def ItZk (K : PySem.W.Frag) (k k2 : Kd) (xs ys : List V) : It :=
  ⟨fun i H => k.At K H xs ∧ k2.At K H ys ∧ i < min xs.length ys.length, fun i H v H' => ∃ T x y, v = .ref T ∧ H T = none ∧ H' = upd H T (.tup [x, y]) ∧ xs[i]? = some x ∧ ys[i]? = some y, fun i H => k.At K H xs ∧ k2.At K H ys ∧ i = min xs.length ys.length⟩
theorem turn_zipG {P : Program} {w : World} {K : PySem.W.Frag} {elts : List Expr} {kk : Nat} {tpos : Pos} {k k2 : Kd} {xs ys : List V} {u u2 : Value} (ru : RelV k.v u) (ru2 : RelV k2.v u2) {z TI TO i1 i2 : Addr} (D : ZipSep2 z TI TO i1 i2 (i1 :: k.fs) (i2 :: k2.fs)) (n1 : ∀ a ∈ k.fs, i1 ≠ a) (n2 : ∀ a ∈ k2.fs, i2 ≠ a) :
    Turn P w K (.Tuple elts kk tpos) (ItZk K k k2 xs ys) [z, TI, TO, i1, i2] z (fun i h => IsZip h z TI TO .none ∧ IsTupOf2 h TI (.ref i1) (.ref i2) ∧ (∃ a1 a2, IsTupOf2 h TO a1 a2) ∧ k.Si i1 u i h ∧ k2.Si i2 u2 i h) where
  mem := by simp
  obj := fun i h st b hb => by
    obtain ⟨hz, h1, ⟨a1, a2, h2⟩, s1, s2⟩ := st
    have e' : b = z ∨ b = TI ∨ b = TO ∨ b = i1 ∨ b = i2 := by simpa using hb
    rcases e' with rfl | rfl | rfl | rfl | rfl
    · exact ⟨_, hz, fun v q => nomatch q⟩
    · exact ⟨_, h1, fun v q => nomatch q⟩
    · exact ⟨_, h2, fun v q => nomatch q⟩
    · exact (itE_ok (K := K) k u ru xs _ n1).live i h s1
    · exact (itE_ok (K := K) k2 u2 ru2 ys _ n2).live i h s2
  keep := fun i h h' st hk => by
    obtain ⟨hz, h1, ⟨a1, a2, h2⟩, s1, s2⟩ := st
    exact ⟨hk z (by simp) _ hz, hk TI (by simp) _ h1, ⟨a1, a2, hk TO (by simp) _ h2⟩, (itE_ok (K := K) k u ru xs _ n1).keep i h h' s1 fun o q => hk i1 (by simp) o q, (itE_ok (K := K) k2 u2 ru2 ys _ n2).keep i h h' s2 fun o q => hk i2 (by simp) o q⟩
  item := by
    intro X hP hw hK hc i pins s σ H E I hf st hg
    subst hP hw hK
    obtain ⟨hz, h1, h2, s1, s2⟩ := st
    obtain ⟨P1, Hs1, _, _, hs1, _, S1, get1⟩ := kd_src k u ru i1 n1 I hg.1
    obtain ⟨P2, Hs2, _, _, hs2, _, S2, get2⟩ := kd_src k2 u2 ru2 i2 n2 I hg.2.1
    have G := GoesN.zip2 (elts := elts) (x1 := kk) (pos := tpos) D (S1.dr X.prog X.w X.A.in1 (I.ok.hd hc)) (S2.dr X.prog X.w X.A.in1 (I.ok.hd hc))
    have lt : ∀ b ∈ [z, TI, TO, i1, i2], b < s.heap.objs.size := fun b hb => by
      have e' : b = z ∨ b = TI ∨ b = TO ∨ b = i1 ∨ b = i2 := by simpa using hb
      rcases e' with rfl | rfl | rfl | rfl | rfl
      · exact Heap.lt_size hz
      · exact Heap.lt_size h1
      · obtain ⟨_, _, q⟩ := h2
        exact Heap.lt_size q
      · obtain ⟨o, q, _⟩ := (itE_ok (K := X.K) k u ru xs _ n1).live i _ s1
        exact Heap.lt_size q
      · obtain ⟨o, q, _⟩ := (itE_ok (K := X.K) k2 u2 ru2 ys _ n2).live i _ s2
        exact Heap.lt_size q
    refine wpAny_mono (G.goes i s (fun u' s2 => ∃ x H', Inv X pins σ H' s2 ∧ RelV x u' ∧ (ItZk X.K k k2 xs ys).yld i H x H' ∧ (IsZip s2.heap z TI TO .none ∧ IsTupOf2 s2.heap TI (.ref i1) (.ref i2) ∧ (∃ a1 a2, IsTupOf2 s2.heap TO a1 a2) ∧ k.Si i1 u (i + 1) s2.heap ∧ k2.Si i2 u2 (i + 1) s2.heap) ∧ ∀ b ∈ [z, TI, TO, i1, i2], H' b = none) E hg.2.2 ⟨hz, h1, h2, ⟨s1, hs1⟩, ⟨s2, hs2⟩⟩ fun v h' tk yv st' hk _ => ?_) (fun r s1 ⟨v, a, b⟩ => ⟨v, a, b⟩) fun _ _ z => z
    obtain ⟨T, x', y', rfl, hT, hx, hy, hTup⟩ := yv
    obtain ⟨x, rx, ex⟩ := get1 i _ hx
    obtain ⟨y, ry, ey⟩ := get2 i _ hy
    have fT : H T = none := I.hok.fresh hT
    have new : ObjOk X.prog X.w (upd H T (.tup [x, y])) h' T (.tup [x, y]) := ⟨by show 2 ≤ sizeLine; decide, [x', y'], .cons rx (.cons ry .nil), hTup⟩
    have I1 : Inv X pins σ (upd H T (.tup [x, y])) { s with heap := h', toks := tk } := I.turnedNew (ch := [z, TI, TO, i1, i2]) (fun b ob hb q => hk b ob (fun hm => hb (by
      have e' : b = z ∨ b = TO ∨ b = i1 ∨ b = i2 := by simpa using hm
      rcases e' with e' | e' | e' | e' <;> simp [e'])) q) hf hT new
    refine ⟨.ref T, _, I1, rfl, ⟨T, x, y, rfl, fT, rfl, ex, ey⟩, ⟨st'.1, st'.2.1, st'.2.2.1, st'.2.2.2.1.1, st'.2.2.2.2.1⟩, fun b hb => ?_⟩
    rw [upd_ne (Nat.ne_of_lt (Nat.lt_of_lt_of_le (lt b hb) hT))]
    exact (hf b hb).1
  done := by
    intro X hP hw hK hc i pins s σ H E I hf st hg
    subst hP hw hK
    obtain ⟨hz, h1, h2, s1, s2⟩ := st
    obtain ⟨P1, Hs1, _, _, hs1, _, S1, get1⟩ := kd_src k u ru i1 n1 I hg.1
    obtain ⟨P2, Hs2, _, _, hs2, _, S2, get2⟩ := kd_src k2 u2 ru2 i2 n2 I hg.2.1
    have G := GoesN.zip2 (elts := elts) (x1 := kk) (pos := tpos) D (S1.dr X.prog X.w X.A.in1 (I.ok.hd hc)) (S2.dr X.prog X.w X.A.in1 (I.ok.hd hc))
    have ei := hg.2.2
    subst ei
    exact G.stops s (fun s1 => Inv X pins σ H s1) E ⟨hz, h1, h2, ⟨s1, hs1⟩, ⟨s2, hs2⟩⟩ fun h' tk hk _ => I.turnedL (ch := [z, TI, TO, i1, i2]) (fun b ob hb q => hk b ob (fun hm => hb (by
      have e' : b = z ∨ b = TO ∨ b = i1 ∨ b = i2 := by simpa using hm
      rcases e' with e' | e' | e' | e' <;> simp [e'])) q) hf
  self := fun A i s Q E st h => wpAny_pyIter_zip st.1 h
def iZp (K : PySem.W.Frag) (ta : TA) : TI := fun σ H R => ta σ H fun vs H1 => ∃ (k k2 : Kd) (xs ys : List V), vs = [k.v, k2.v] ∧ k.At K H1 xs ∧ k2.At K H1 ys ∧ R (ItZk K k k2 xs ys) H1
theorem pi_zp {X : Cx} {e e2 : Expr} {ta : TA} {p pos tpos : Pos} {elts : List Expr} {kk : Nat} (hg : Gl X "zip") (hm : X.mg "zip" = none) (ha : PA X [e, e2] ta)
    (hs : starEach [e, e2] X.env = (false, eval e X.env) :: starEach [e2] X.env := by rfl) (hpl : (backTo pos (starEach [e2] X.env)).any (·.1) = false := by rfl) :
    PI X (.Tuple elts kk tpos) (.Call (.Name "zip" p) [e, e2] [] pos) (iZp X.K ta) := by
  refine ⟨fun pins s σ H R I h => ?_⟩
  refine Call_ (ld_blt I hg hm PyProof.Rows.boot_zip (PyProof.Rows.callWith_type1 (thn (ha.run pos pins s σ H _ I h) fun us s1 ⟨vs, H1, I1, r1, q1⟩ => ?_) hs hpl))
  obtain ⟨k, k2, xs, ys, ex, hat, hat2, q⟩ := q1
  subst ex
  obtain ⟨u, u2, rfl, r, r2⟩ := Vals.two r1
  · · skip
      have ne1 : ∀ a ∈ k.fs, s1.heap.objs.size ≠ a := fun a ha => Nat.ne_of_gt (k.lt I1 hat a ha)
      have ne2 : ∀ a ∈ k2.fs, s1.heap.objs.size + 1 ≠ a := fun a ha => Nat.ne_of_gt (Nat.lt_succ_of_lt (k2.lt I1 hat2 a ha))
      obtain ⟨P, Hs, o, B, hs', init, S, get⟩ := kd_src k u r s1.heap.objs.size ne1 I1 hat
      obtain ⟨P2, Hs2, o2, B2, hs2', init2, S2, get2⟩ := kd_src k2 u2 r2 (s1.heap.objs.size + 1) ne2 I1 hat2
      refine zip_begins2 B B2 hs' hs2' fun h' hz hTI hTO g1 g2 hsz hk => wpAny_pyIter_zip hz ?_
      have I2 : Inv X pins σ H1 { s1 with heap := h' } := I1.kept (t' := s1.toks) hk
      refine ⟨s1.heap.objs.size + 4, [s1.heap.objs.size + 4, s1.heap.objs.size + 2, s1.heap.objs.size + 3, s1.heap.objs.size, s1.heap.objs.size + 1], _, _, H1, rfl, I2, turn_zipG (xs := xs) (ys := ys) r r2 (zip_sep2 (k.lt I1 hat) (k2.lt I1 hat2)) ne1 ne2, ⟨hz, hTI, ⟨_, _, hTO⟩, init h' g1, init2 h' g2⟩, fun c hcm => ?_, q⟩
      have e' : c = s1.heap.objs.size + 4 ∨ c = s1.heap.objs.size + 2 ∨ c = s1.heap.objs.size + 3 ∨ c = s1.heap.objs.size ∨ c = s1.heap.objs.size + 1 := by simpa using hcm
      have hle : s1.heap.objs.size ≤ c := by
        rcases e' with z | z | z | z | z <;> rw [z]
        · exact Nat.le_add_right _ _
        · exact Nat.le_add_right _ _
        · exact Nat.le_add_right _ _
        · exact Nat.le_refl _
        · exact Nat.le_add_right _ _
      exact I1.fpOk hle (I1.hok.fresh hle)
end Z

set_option Elab.async false
set_option linter.all false
set_option maxRecDepth 100000
set_option maxHeartbeats 2000000
namespace Z
open PySem PySem.Spec PyProof.Rows L2
/-! ### enumerate and zip over data -/
def enumD (ds : List PyData) : List PyData := ds.zipIdx.map fun p => .tuple [.int (p.2 : Int), p.1]
def zipD (ds es : List PyData) : List PyData := List.zipWith (fun a b => .tuple [a, b]) ds es
section
variable {C : Cz} {ε : Ev} {L : Led} {te : TE} {ta : TA} {q : List PyData → Led → Prop}
theorem kd_of {K : PySem.W.Frag} {H : Hp} {v : V} {r : Rs} {ds : List PyData} (h : RsOk K L H v r) (s : SeqOf r ds) : ∃ (k : Kd) (xs : List V), v = k.v ∧ (∀ H', Ext (hid L H) H' → k.At K H' xs) ∧ RpAll K (hid L H) xs ds := by
  cases s with
  | lst =>
    cases h with
    | @lst a xs _ e ha => exact ⟨.l a, xs, rfl, fun H' x => SqL.of (x _ _ e), ha⟩
  | tup =>
    cases h with
    | @tup a xs _ e ha => exact ⟨.t a, xs, rfl, fun H' x => ext_t x e, ha⟩
  | str x =>
    cases h
    exact ⟨.s x, _, rfl, fun H' _ => rfl, rpAll_map _ fun c _ => .str _⟩
  | scr ns =>
    obtain ⟨a, e, hs⟩ := h
    exact ⟨.l a, _, e, fun H' x => ext_l x hs, rpAll_ints ns⟩
theorem rsAll_1 {K : PySem.W.Frag} {H : Hp} {vs : List V} {r : Rs} (o : RsAll K L H vs [r]) : ∃ v, vs = [v] ∧ RsOk K L H v r := by
  cases o with
  | cons a b =>
    cases b
    exact ⟨_, rfl, a⟩
theorem rsAll_2 {K : PySem.W.Frag} {H : Hp} {vs : List V} {r s : Rs} (o : RsAll K L H vs [r, s]) : ∃ v w, vs = [v, w] ∧ RsOk K L H v r ∧ RsOk K L H w s := by
  cases o with
  | cons a b =>
    obtain ⟨w, rfl, c⟩ := rsAll_1 b
    exact ⟨_, w, rfl, a, c⟩
theorem ci_en {K : PySem.W.Frag} (h : CA C ta ε L fun rs L1 => ∃ r ds, rs = [r] ∧ SeqOf r ds ∧ q (enumD ds) L1) (hK : C.K = K := by rfl) : CI C (iEn K ta) ε L q := fun σ H R Rl X z => by
  subst hK
  refine h σ H _ Rl X fun vs rs L1 H1 g1 k1 R1 o1 ⟨r, ds, er, hs, hq⟩ => ?_
  subst er
  obtain ⟨v, rfl, o⟩ := rsAll_1 o1
  obtain ⟨k, xs, rfl, hat, hx⟩ := kd_of o hs
  refine ⟨k, xs, rfl, hat _ hid_sub, z _ _ L1 H1 g1 k1 R1 (fun L' H' g l i => ?_) hq⟩
  have e : Ext (hid L1 H1) H' := g.ext.trans hid_sub
  have hl := rpAll_len hx
  refine ⟨fun hi => ⟨hat _ e, ?_⟩, fun d hd => ?_⟩
  · unfold enumD at hi
    rw [List.length_map, List.length_zipIdx] at hi
    omega
  · unfold enumD at hd
    rw [List.getElem?_map, List.getElem?_zipIdx] at hd
    cases e1 : ds[i]? with
    | none =>
      rw [e1] at hd
      cases hd
    | some d1 =>
      rw [e1] at hd
      cases hd
      obtain ⟨v, e2, r2⟩ := rpAll_get hx e1
      refine ⟨⟨hat _ e, (List.getElem?_eq_some_iff.mp e2).1⟩, fun w H2 ⟨T, x, ew, hT, eH, ex⟩ => ?_⟩
      subst ew eH
      rw [e2] at ex
      cases ex
      have gn : Grow H' L' (upd H' T (.tup [.int (i : Int), v])) L' := grow_new hT
      refine ⟨gn, l.new hT, .tup (SqT.of (by rw [hid_out (l.fresh hT)]; exact upd_same)) (.cons ?_ (.cons (rp_mono (g.ext.trans gn.ext) r2) .nil))⟩
      have e3 : (((0 + i : Nat) : Int)) = (i : Int) := by omega
      show Rp _ _ _ (.int (((0 + i : Nat) : Int)))
      rw [e3]
      exact .int _
theorem ci_zp {K : PySem.W.Frag} (h : CA C ta ε L fun rs L1 => ∃ r s ds es, rs = [r, s] ∧ SeqOf r ds ∧ SeqOf s es ∧ q (zipD ds es) L1) (hK : C.K = K := by rfl) : CI C (iZp K ta) ε L q := fun σ H R Rl X z => by
  subst hK
  refine h σ H _ Rl X fun vs rs L1 H1 g1 k1 R1 o1 ⟨r, s, ds, es, er, hs, hs2, hq⟩ => ?_
  subst er
  obtain ⟨v, v2, rfl, o, o2⟩ := rsAll_2 o1
  obtain ⟨k, xs, rfl, hat, hx⟩ := kd_of o hs
  obtain ⟨k2, ys, rfl, hat2, hy⟩ := kd_of o2 hs2
  refine ⟨k, k2, xs, ys, rfl, hat _ hid_sub, hat2 _ hid_sub, z _ _ L1 H1 g1 k1 R1 (fun L' H' g l i => ?_) hq⟩
  have e : Ext (hid L1 H1) H' := g.ext.trans hid_sub
  have hl := rpAll_len hx
  have hl2 := rpAll_len hy
  refine ⟨fun hi => ⟨hat _ e, hat2 _ e, ?_⟩, fun d hd => ?_⟩
  · unfold zipD at hi
    rw [List.length_zipWith] at hi
    omega
  · unfold zipD at hd
    rw [List.getElem?_zipWith] at hd
    cases e1 : ds[i]? with
    | none =>
      rw [e1] at hd
      cases hd
    | some d1 =>
      cases e2 : es[i]? with
      | none =>
        rw [e1, e2] at hd
        cases hd
      | some d2 =>
        rw [e1, e2] at hd
        cases hd
        obtain ⟨v, e3, r3⟩ := rpAll_get hx e1
        obtain ⟨u, e4, r4⟩ := rpAll_get hy e2
        refine ⟨⟨hat _ e, hat2 _ e, ?_⟩, fun w H2 ⟨T, x, y, ew, hT, eH, ex, ey⟩ => ?_⟩
        · have := (List.getElem?_eq_some_iff.mp e3).1
          have := (List.getElem?_eq_some_iff.mp e4).1
          omega
        subst ew eH
        rw [e3] at ex
        cases ex
        rw [e4] at ey
        cases ey
        have gn : Grow H' L' (upd H' T (.tup [v, u])) L' := grow_new hT
        exact ⟨gn, l.new hT, .tup (SqT.of (by rw [hid_out (l.fresh hT)]; exact upd_same)) (.cons (rp_mono (g.ext.trans gn.ext) r3) (.cons (rp_mono (g.ext.trans gn.ext) r4) .nil))⟩
end

/-! ### operators -/
def rAddZ (K : PySem.W.Frag) : R2 := fun x y H Q => rI0 (fun i j => .int (i + j)) x y H Q ∨ (∃ i j, x = .str i ∧ y = .str j ∧ i.length + j.length ≤ sizeLine ∧ Q (.str (i ++ j)) H) ∨ rCat x y H Q ∨ rCatA K x y H Q
theorem op_addZ {X : Cx} : OpR X (binaryOp .Add) (rAddZ X.K) := op_add.or (op_add_str.or (op_cat.or op_catA))
def rMulZ (K : PySem.W.Frag) : R2 := fun x y H Q => rI CMul (fun i j => .int (i * j)) x y H Q ∨ rRep x y H Q ∨ rRepT K x y H Q
theorem op_mulZ {X : Cx} : OpR X (binaryOp .Mult) (rMulZ X.K) := op_mul.or (op_rep.or op_repT)
def rLtZ : R2 := fun x y H Q => rI0 (fun i j => .bl (decide (i < j))) x y H Q ∨ ∃ i j, x = .str i ∧ y = .str j ∧ Q (.bl (decide (i.cps.toList < j.cps.toList))) H
theorem op_ltZ {X : Cx} : OpR X (compareOp .Lt) rLtZ := op_lt.or op_lt_str
def rEqZ (K : PySem.W.Frag) : R2 := fun x y H Q => rEq x y H Q ∨ rEqD K x y H Q
theorem op_eqZ {X : Cx} (hu : X.A.units + 64 < cLine) : OpR X (compareOp .Eq) (rEqZ X.K) := op_eq.or (op_eqD hu)
def rNeZ (K : PySem.W.Frag) : R2 := fun x y H Q => rNe x y H Q ∨ rNeD K x y H Q
theorem op_neZ {X : Cx} (hu : X.A.units + 64 < cLine) : OpR X (compareOp .NotEq) (rNeZ X.K) := op_ne.or (op_neD hu)
def rInZ (K : PySem.W.Frag) : R2 := fun x y H Q => (∃ (c : Nat) (z : Str), x = .str ⟨#[c]⟩ ∧ y = .str z ∧ Q (.bl (decide (c ∈ z.cps.toList))) H) ∨ rIn K false x y H Q
theorem op_inZ {X : Cx} : OpR X (compareOp .In) (rInZ X.K) := op_in_sign.or op_in_seq
def rNotInZ (K : PySem.W.Frag) : R2 := fun x y H Q => (∃ (c : Nat) (z : Str), x = .str ⟨#[c]⟩ ∧ y = .str z ∧ Q (.bl (!decide (c ∈ z.cps.toList))) H) ∨ rIn K true x y H Q
theorem op_notInZ {X : Cx} : OpR X (compareOp .NotIn) (rNotInZ X.K) := op_notIn_sign.or op_notIn_seq
def rIsZ : R2 := fun x y H Q => (y = .non ∧ Q (.bl (decide (x = .non))) H) ∨ rIsB x y H Q
theorem op_isZ {X : Cx} : OpR X (compareOp .Is) rIsZ := op_isN.or op_isBl
def rIsNotZ : R2 := fun x y H Q => (y = .non ∧ Q (.bl (!decide (x = .non))) H) ∨ rNotB x y H Q
theorem op_isNotZ {X : Cx} : OpR X (compareOp .IsNot) rIsNotZ := op_notN.or op_notBl
section
variable {C : Cz} {L : Led} {k : Rs → Led → Prop} {K : PySem.W.Frag}
/-- a value of both operands, nothing made -/
theorem od_val {r : R2} {x y z : Rs} (h : ∀ v w H, LOk C.K L H → RsOk C.K L H v x → RsOk C.K L H w y → ∃ u, RsOk C.K L H u z ∧ ∀ Q : VK, Q u H → r v w H Q) (q : k z L) : OD C r x y L k := fun v w H Q l a b f => by
  obtain ⟨u, o, g⟩ := h v w H l a b
  exact g Q (f u z L H (Grow.refl H L) (Keeps.refl L) l o q)
theorem od_int {g : Int → Int → Int} {i j : Int} (q : k (.dat (.int (g i j))) L) : OD C (rI0 fun a b => .int (g a b)) (.dat (.int i)) (.dat (.int j)) L k := od_val (fun v w H l a b => by
  cases a
  cases b
  exact ⟨.int (g i j), .int _, fun Q f => ⟨i, j, rfl, rfl, f⟩⟩) q
theorem od_intC {c : Int → Int → Prop} {g : Int → Int → Int} {i j : Int} (hc : c i j) (q : k (.dat (.int (g i j))) L) : OD C (rI c fun a b => .int (g a b)) (.dat (.int i)) (.dat (.int j)) L k := od_val (fun v w H l a b => by
  cases a
  cases b
  exact ⟨.int (g i j), .int _, fun Q f => ⟨i, j, rfl, rfl, hc, f⟩⟩) q
theorem od_cmp {g : Int → Int → Bool} {i j : Int} (q : k (.dat (.bool (g i j))) L) : OD C (rI0 fun a b => .bl (g a b)) (.dat (.int i)) (.dat (.int j)) L k := od_val (fun v w H l a b => by
  cases a
  cases b
  exact ⟨.bl (g i j), .bl _, fun Q f => ⟨i, j, rfl, rfl, f⟩⟩) q
theorem od_or1 {r r' : R2} {x y : Rs} (h : OD C r x y L k) : OD C (fun a b H Q => r a b H Q ∨ r' a b H Q) x y L k := fun v w H Q l a b f => .inl (h v w H Q l a b f)
theorem od_or2 {r r' : R2} {x y : Rs} (h : OD C r' x y L k) : OD C (fun a b H Q => r a b H Q ∨ r' a b H Q) x y L k := fun v w H Q l a b f => .inr (h v w H Q l a b f)
theorem od_add_int {i j : Int} (q : k (.dat (.int (i + j))) L) : OD C (rAddZ K) (.dat (.int i)) (.dat (.int j)) L k := od_or1 (od_int (g := fun a b => a + b) q)
theorem od_add_str {i j : Str} (h : i.length + j.length ≤ sizeLine) (q : k (.dat (.str (i ++ j))) L) : OD C (rAddZ K) (.dat (.str i)) (.dat (.str j)) L k := od_or2 (od_or1 (od_val (fun v w H l a b => by
  cases a
  cases b
  exact ⟨.str (i ++ j), .str _, fun Q f => ⟨i, j, rfl, rfl, h, f⟩⟩) q))
theorem od_add_lst {ds es : List PyData} (h : ds.length + es.length ≤ sizeLine) (q : k (.dat (.list (ds ++ es))) L) : OD C (rAddZ K) (.dat (.list ds)) (.dat (.list es)) L k := fun v w H Q l a b f => .inr (.inr (.inl (by
  cases a with
  | @lst p xs _ e ha =>
    cases b with
    | @lst p2 ys _ e2 hb =>
      refine ⟨p, p2, xs, ys, rfl, rfl, hid_sub _ _ e, hid_sub _ _ e2, by rw [rpAll_len ha, rpAll_len hb]; exact h, fun z hz => ?_⟩
      have g : Grow H L (upd H z (.lst (xs ++ ys))) L := grow_new hz
      exact f _ (.dat (.list (ds ++ es))) L _ g (Keeps.refl L) (l.new hz) (.lst (by rw [hid_out (l.fresh hz)]; exact upd_same) (rpAll_mono g.ext (rpAll_app ha hb))) q)))
theorem od_add_tup {ds es : List PyData} (h : ds.length + es.length ≤ sizeLine) (q : k (.dat (.tuple (ds ++ es))) L) (hK : C.K = K := by rfl) : OD C (rAddZ K) (.dat (.tuple ds)) (.dat (.tuple es)) L k := fun v w H Q l a b f => .inr (.inr (.inr (by
  subst hK
  cases a with
  | @tup p xs _ e ha =>
    cases b with
    | @tup p2 ys _ e2 hb =>
      refine ⟨p, p2, xs, ys, rfl, rfl, ext_t hid_sub e, ext_t hid_sub e2, by rw [rpAll_len ha, rpAll_len hb]; exact h, fun hx => ?_, fun hx hy => ?_, fun hx hy z hz => ?_⟩
      · subst hx
        cases ha
        exact f _ (.dat (.tuple es)) L H (Grow.refl H L) (Keeps.refl L) l (.tup e2 hb) q
      · subst hy
        cases hb
        rw [List.append_nil] at q
        exact f _ (.dat (.tuple ds)) L H (Grow.refl H L) (Keeps.refl L) l (.tup e ha) q
      · have g : Grow H L (upd H z (.tup (xs ++ ys))) L := grow_new hz
        exact f _ (.dat (.tuple (ds ++ es))) L _ g (Keeps.refl L) (l.new hz) (.tup (SqT.of (by rw [hid_out (l.fresh hz)]; exact upd_same)) (rpAll_mono g.ext (rpAll_app ha hb))) q)))
theorem od_mul_int {i j : Int} (h : CMul i j) (q : k (.dat (.int (i * j))) L) : OD C (rMulZ K) (.dat (.int i)) (.dat (.int j)) L k := od_or1 (od_intC (g := fun a b => a * b) h q)
theorem rpAll_rep {H : Hp} {vs : List V} {ds : List PyData} (h : RpAll K H vs ds) : ∀ n : Nat, RpAll K H (List.replicate n vs).flatten (List.replicate n ds).flatten
  | 0 => .nil
  | n + 1 => by
    rw [List.replicate_succ, List.replicate_succ, List.flatten_cons, List.flatten_cons]
    exact rpAll_app h (rpAll_rep h n)
theorem od_mul_lst {ds : List PyData} {n : Int} (h : -(2 ^ 63) ≤ n ∧ n < 2 ^ 63 ∧ ds.length * n.toNat ≤ sizeLine) (q : k (.dat (.list (List.replicate n.toNat ds).flatten)) L) : OD C (rMulZ K) (.dat (.list ds)) (.dat (.int n)) L k := fun v w H Q l a b f => .inr (.inl (by
  cases a with
  | @lst p xs _ e ha =>
    cases b
    refine ⟨p, n, xs, rfl, rfl, hid_sub _ _ e, h.1, h.2.1, by rw [rpAll_len ha]; exact h.2.2, fun z hz => ?_⟩
    have g : Grow H L (upd H z (.lst (List.replicate n.toNat xs).flatten)) L := grow_new hz
    exact f _ (.dat (.list (List.replicate n.toNat ds).flatten)) L _ g (Keeps.refl L) (l.new hz) (.lst (by rw [hid_out (l.fresh hz)]; exact upd_same) (rpAll_mono g.ext (rpAll_rep ha _))) q))
theorem od_lt_int {i j : Int} (q : k (.dat (.bool (decide (i < j)))) L) : OD C rLtZ (.dat (.int i)) (.dat (.int j)) L k := od_or1 (od_cmp (g := fun a b => decide (a < b)) q)
theorem od_lt_str {i j : Str} (q : k (.dat (.bool (decide (i.cps.toList < j.cps.toList)))) L) : OD C rLtZ (.dat (.str i)) (.dat (.str j)) L k := od_or2 (od_val (fun v w H l a b => by
  cases a
  cases b
  exact ⟨.bl _, .bl _, fun Q f => ⟨i, j, rfl, rfl, f⟩⟩) q)
/-! equality -/
theorem od_eq_int {i j : Int} (q : k (.dat (.bool (i == j))) L) : OD C (rEqZ K) (.dat (.int i)) (.dat (.int j)) L k := od_or1 (od_val (fun v w H l a b => by
  cases a
  cases b
  exact ⟨.bl (i == j), .bl _, fun Q f => ⟨rfl, by rw [dec_int]; exact f⟩⟩) q)
theorem od_eq_str {i j : Str} (q : k (.dat (.bool (i == j))) L) : OD C (rEqZ K) (.dat (.str i)) (.dat (.str j)) L k := od_or1 (od_val (fun v w H l a b => by
  cases a
  cases b
  exact ⟨.bl (i == j), .bl _, fun Q f => ⟨rfl, by rw [dec_str]; exact f⟩⟩) q)
theorem od_eq_bool {i j : Bool} (q : k (.dat (.bool (i == j))) L) : OD C (rEqZ K) (.dat (.bool i)) (.dat (.bool j)) L k := od_or1 (od_val (fun v w H l a b => by
  cases a
  cases b
  exact ⟨.bl (i == j), .bl _, fun Q f => ⟨rfl, by rw [dec_bl]; exact f⟩⟩) q)
theorem od_ne_int {i j : Int} (q : k (.dat (.bool (!(i == j)))) L) : OD C (rNeZ K) (.dat (.int i)) (.dat (.int j)) L k := od_or1 (od_val (fun v w H l a b => by
  cases a
  cases b
  exact ⟨.bl (!(i == j)), .bl _, fun Q f => ⟨rfl, by rw [dec_int]; exact f⟩⟩) q)
theorem od_ne_str {i j : Str} (q : k (.dat (.bool (!(i == j)))) L) : OD C (rNeZ K) (.dat (.str i)) (.dat (.str j)) L k := od_or1 (od_val (fun v w H l a b => by
  cases a
  cases b
  exact ⟨.bl (!(i == j)), .bl _, fun Q f => ⟨rfl, by rw [dec_str]; exact f⟩⟩) q)
theorem od_ne_bool {i j : Bool} (q : k (.dat (.bool (!(i == j)))) L) : OD C (rNeZ K) (.dat (.bool i)) (.dat (.bool j)) L k := od_or1 (od_val (fun v w H l a b => by
  cases a
  cases b
  exact ⟨.bl (!(i == j)), .bl _, fun Q f => ⟨rfl, by rw [dec_bl]; exact f⟩⟩) q)
theorem od_eq_deep {d e : PyData} (h : SeqAt.shaped d = true ∧ SeqAt.shaped e = true ∧ flatD d = true ∧ flatD e = true) (q : k (.dat (.bool (PyData.eqv d e))) L) (hK : C.K = K := by rfl) : OD C (rEqZ K) (.dat d) (.dat e) L k := od_or2 (od_val (fun v w H l a b => by
  subst hK
  exact ⟨.bl _, .bl _, fun Q f => ⟨d, e, rp_dp (rp_mono hid_sub a) h.2.2.1, rp_dp (rp_mono hid_sub b) h.2.2.2, h.1, h.2.1, f⟩⟩) q)
theorem od_ne_deep {d e : PyData} (h : SeqAt.shaped d = true ∧ SeqAt.shaped e = true ∧ flatD d = true ∧ flatD e = true) (q : k (.dat (.bool (!PyData.eqv d e))) L) (hK : C.K = K := by rfl) : OD C (rNeZ K) (.dat d) (.dat e) L k := od_or2 (od_val (fun v w H l a b => by
  subst hK
  exact ⟨.bl _, .bl _, fun Q f => ⟨d, e, rp_dp (rp_mono hid_sub a) h.2.2.1, rp_dp (rp_mono hid_sub b) h.2.2.2, h.1, h.2.1, f⟩⟩) q)
/-! in -/
theorem od_in_sign {c : Nat} {z : Str} (q : k (.dat (.bool (decide (c ∈ z.cps.toList)))) L) : OD C (rInZ K) (.dat (.str ⟨#[c]⟩)) (.dat (.str z)) L k := od_or1 (od_val (fun v w H l a b => by
  cases a
  cases b
  exact ⟨.bl _, .bl _, fun Q f => ⟨c, z, rfl, rfl, f⟩⟩) q)
theorem od_notIn_sign {c : Nat} {z : Str} (q : k (.dat (.bool (!decide (c ∈ z.cps.toList)))) L) : OD C (rNotInZ K) (.dat (.str ⟨#[c]⟩)) (.dat (.str z)) L k := od_or1 (od_val (fun v w H l a b => by
  cases a
  cases b
  exact ⟨.bl _, .bl _, fun Q f => ⟨c, z, rfl, rfl, f⟩⟩) q)
theorem od_is_bool {i j : Bool} (q : k (.dat (.bool (decide (i = j)))) L) : OD C rIsZ (.dat (.bool i)) (.dat (.bool j)) L k := od_or2 (od_val (fun v w H l a b => by
  cases a
  cases b
  exact ⟨.bl _, .bl _, fun Q f => ⟨i, j, rfl, rfl, f⟩⟩) q)
theorem od_isNot_bool {i j : Bool} (q : k (.dat (.bool (!decide (i = j)))) L) : OD C rIsNotZ (.dat (.bool i)) (.dat (.bool j)) L k := od_or2 (od_val (fun v w H l a b => by
  cases a
  cases b
  exact ⟨.bl _, .bl _, fun Q f => ⟨i, j, rfl, rfl, f⟩⟩) q)
def isNoneD : PyData → Bool
  | .none => true
  | _ => false
theorem rp_none {H : Hp} {v : V} {d : PyData} (h : Rp K H v d) : decide (v = .non) = isNoneD d := by
  cases h <;> simp [isNoneD]
theorem od_is_none {d : PyData} (q : k (.dat (.bool (isNoneD d))) L) : OD C rIsZ (.dat d) (.dat .none) L k := od_or1 (od_val (fun v w H l a b => by
  cases b
  exact ⟨.bl _, .bl _, fun Q f => ⟨rfl, by rw [rp_none a]; exact f⟩⟩) q)
theorem od_isNot_none {d : PyData} (q : k (.dat (.bool (!isNoneD d))) L) : OD C rIsNotZ (.dat d) (.dat .none) L k := od_or1 (od_val (fun v w H l a b => by
  cases b
  exact ⟨.bl _, .bl _, fun Q f => ⟨rfl, by rw [rp_none a]; exact f⟩⟩) q)
/-! items -/
theorem atI_rp {H : Hp} {xs : List V} {ds : List PyData} {i : Int} {d : PyData} (h : RpAll K H xs ds) (e : atI ds i = some d) : ∃ v, atI xs i = some v ∧ Rp K H v d := by
  unfold atI at e ⊢
  rw [rpAll_len h]
  cases e1 : ixN ds.length i with
  | none =>
    rw [e1] at e
    cases e
  | some j =>
    rw [e1] at e
    obtain ⟨v, e2, r⟩ := rpAll_get h (show ds[j]? = some d from e)
    exact ⟨v, e2, r⟩
abbrev rIxZ (K : PySem.W.Frag) : R2 := rIx K
theorem od_ix_lst {ds : List PyData} {i : Int} {d : PyData} (e : atI ds i = some d) (q : k (.dat d) L) (hK : C.K = K := by rfl) : OD C (rIx K) (.dat (.list ds)) (.dat (.int i)) L k := by
  subst hK
  refine od_or1 (od_val (fun v w H l a b => ?_) q)
  cases a with
  | @lst p xs _ e2 ha =>
    cases b
    obtain ⟨v, e3, r⟩ := atI_rp ha e
    exact ⟨v, r, fun Q f => ⟨p, xs, i, v, rfl, rfl, SqL.of (hid_sub _ _ e2), e3, f⟩⟩
theorem od_ix_tup {ds : List PyData} {i : Int} {d : PyData} (e : atI ds i = some d) (q : k (.dat d) L) (hK : C.K = K := by rfl) : OD C (rIx K) (.dat (.tuple ds)) (.dat (.int i)) L k := by
  subst hK
  refine od_or2 (od_or1 (od_val (fun v w H l a b => ?_) q))
  cases a with
  | @tup p xs _ e2 ha =>
    cases b
    obtain ⟨v, e3, r⟩ := atI_rp ha e
    exact ⟨v, r, fun Q f => ⟨p, xs, i, v, rfl, rfl, ext_t hid_sub e2, e3, f⟩⟩
theorem od_ix_str {z : Str} {i : Int} {c : Nat} (h : z.length ≤ sizeLine) (e : atI z.cps.toList i = some c) (q : k (.dat (sgn c)) L) : OD C (rIx K) (.dat (.str z)) (.dat (.int i)) L k := od_or2 (od_or2 (od_val (fun v w H l a b => by
  cases a
  cases b
  exact ⟨.str ⟨#[c]⟩, .str _, fun Q f => ⟨z, i, c, rfl, rfl, h, e, f⟩⟩) q))
theorem od_mod {i j : Int} (h : 0 < j) (q : k (.dat (.int (i % j))) L) : OD C (rI (fun _ j => 0 < j) fun i j => .int (i % j)) (.dat (.int i)) (.dat (.int j)) L k := od_intC (c := fun _ j => 0 < j) (g := fun i j => i % j) h q
theorem od_sub {i j : Int} (q : k (.dat (.int (i - j))) L) : OD C (rI0 fun i j => .int (i - j)) (.dat (.int i)) (.dat (.int j)) L k := od_int (g := fun i j => i - j) q
end

/-! ### built-in functions by values -/
section
variable {C : Cz} {ε : Ev} {L : Led} {k : Rs → Led → Prop} {K : PySem.W.Frag} {te : TE} {ta : TA}
theorem cd_val {r : List V → Hp → VK → Prop} {xs : List Rs} {z : Rs} (h : ∀ vs H, LOk C.K L H → RsAll C.K L H vs xs → ∃ u, RsOk C.K L H u z ∧ ∀ Q : VK, Q u H → r vs H Q) (q : k z L) : CD C r xs L k := fun vs H Q l o f => by
  obtain ⟨u, a, b⟩ := h vs H l o
  exact b Q (f u z L H (Grow.refl H L) (Keeps.refl L) l a q)
/-- a new list of values -/
theorem cd_lst {r : List V → Hp → VK → Prop} {xs : List Rs} {ds : List PyData} (h : ∀ vs H, LOk C.K L H → RsAll C.K L H vs xs → ∃ us, RpAll C.K (hid L H) us ds ∧ ∀ Q : VK, (∀ p, H p = none → Q (.ref p) (upd H p (.lst us))) → r vs H Q) (q : k (.dat (.list ds)) L) : CD C r xs L k := fun vs H Q l o f => by
  obtain ⟨us, a, b⟩ := h vs H l o
  refine b Q fun p hp => ?_
  have g : Grow H L (upd H p (.lst us)) L := grow_new hp
  exact f _ (.dat (.list ds)) L _ g (Keeps.refl L) (l.new hp) (.lst (by rw [hid_out (l.fresh hp)]; exact upd_same) (rpAll_mono g.ext a)) q
theorem cd_or1 {r r' : List V → Hp → VK → Prop} {xs : List Rs} (h : CD C r xs L k) : CD C (fun a H Q => r a H Q ∨ r' a H Q) xs L k := fun v H Q l a f => .inl (h v H Q l a f)
theorem cd_or2 {r r' : List V → Hp → VK → Prop} {xs : List Rs} (h : CD C r' xs L k) : CD C (fun a H Q => r a H Q ∨ r' a H Q) xs L k := fun v H Q l a f => .inr (h v H Q l a f)
/-- len -/
def rLenZ (K : PySem.W.Frag) : List V → Hp → VK → Prop := fun xs H Q => ∃ x n, xs = [x] ∧ LenV K x H n ∧ Q (.int n) H
theorem call_lenZ {X : Cx} : CallR X (.builtin "len") (rLenZ X.K) := call_len
theorem cd_len_lst {ds : List PyData} (q : k (.dat (.int (ds.length : Int))) L) : CD C (rLenZ K) [.dat (.list ds)] L k := cd_val (fun vs H l o => by
  obtain ⟨v, rfl, o1⟩ := rsAll_1 o
  cases o1 with
  | @lst p xs _ e ha => exact ⟨.int _, .int _, fun Q f => ⟨.ref p, ds.length, rfl, .inl ⟨xs, SqL.of (hid_sub _ _ e), (rpAll_len ha).symm⟩, f⟩⟩) q
theorem cd_len_tup {ds : List PyData} (q : k (.dat (.int (ds.length : Int))) L) (hK : C.K = K := by rfl) : CD C (rLenZ K) [.dat (.tuple ds)] L k := by
  subst hK
  refine cd_val (fun vs H l o => ?_) q
  obtain ⟨v, rfl, o1⟩ := rsAll_1 o
  cases o1 with
  | @tup p xs _ e ha => exact ⟨.int _, .int _, fun Q f => ⟨.ref p, ds.length, rfl, .inr ⟨xs, ext_t hid_sub e, (rpAll_len ha).symm⟩, f⟩⟩
theorem cd_len_str {z : Str} (h : z.length ≤ sizeLine) (q : k (.dat (.int (z.length : Int))) L) : CD C (rLenZ K) [.dat (.str z)] L k := cd_val (fun vs H l o => by
  obtain ⟨v, rfl, o1⟩ := rsAll_1 o
  cases o1
  exact ⟨.int _, .int _, fun Q f => ⟨.str z, z.length, rfl, ⟨h, rfl⟩, f⟩⟩) q
/-- int -/
def rIntZ : List V → Hp → VK → Prop := fun xs H Q => ((∃ i, xs = [.int i] ∧ Q (.int i) H) ∨ ∃ b, xs = [.bl b] ∧ Q (.int (if b then 1 else 0)) H) ∨ ∃ a n, xs = [.str a] ∧ PySem.intText? a = some n ∧ a.length ≤ 640 ∧ Q (.int n) H
theorem call_intZ {X : Cx} : CallR X (.type "int") rIntZ := call_int1.or call_int_str
theorem cd_int_int {i : Int} (q : k (.dat (.int i)) L) : CD C rIntZ [.dat (.int i)] L k := cd_or1 (cd_or1 (cd_val (fun vs H l o => by
  obtain ⟨v, rfl, o1⟩ := rsAll_1 o
  cases o1
  exact ⟨.int i, .int i, fun Q f => ⟨i, rfl, f⟩⟩) q))
theorem cd_int_bool {b : Bool} (q : k (.dat (.int (if b then 1 else 0))) L) : CD C rIntZ [.dat (.bool b)] L k := cd_or1 (cd_or2 (cd_val (fun vs H l o => by
  obtain ⟨v, rfl, o1⟩ := rsAll_1 o
  cases o1
  exact ⟨.int (if b then 1 else 0), .int _, fun Q f => ⟨b, rfl, f⟩⟩) q))
theorem cd_int_str {a : Str} {n : Int} (h : PySem.intText? a = some n ∧ a.length ≤ 640) (q : k (.dat (.int n)) L) : CD C rIntZ [.dat (.str a)] L k := cd_or2 (cd_val (fun vs H l o => by
  obtain ⟨v, rfl, o1⟩ := rsAll_1 o
  cases o1
  exact ⟨.int n, .int n, fun Q f => ⟨a, n, rfl, h.1, h.2, f⟩⟩) q)
/-- all, any, sum -/
theorem cd_all {bs : List Bool} (q : k (.dat (.bool (bs.all id))) L) : CD C (rAll K) [.dat (.list (bs.map PyData.bool))] L k := cd_val (fun vs H l o => by
  obtain ⟨v, rfl, o1⟩ := rsAll_1 o
  cases o1 with
  | @lst p xs _ e ha =>
    have ex := bools_of ha
    subst ex
    exact ⟨.bl _, .bl _, fun Q f => ⟨p, bs, rfl, SqL.of (hid_sub _ _ e), f⟩⟩) q
theorem cd_any {bs : List Bool} (q : k (.dat (.bool (bs.any id))) L) : CD C (rAny K) [.dat (.list (bs.map PyData.bool))] L k := cd_val (fun vs H l o => by
  obtain ⟨v, rfl, o1⟩ := rsAll_1 o
  cases o1 with
  | @lst p xs _ e ha =>
    have ex := bools_of ha
    subst ex
    exact ⟨.bl _, .bl _, fun Q f => ⟨p, bs, rfl, SqL.of (hid_sub _ _ e), f⟩⟩) q
theorem cd_sum {ns : List Int} (q : k (.dat (.int ns.sum)) L) : CD C (rSum K) [.dat (.list (ns.map PyData.int))] L k := cd_val (fun vs H l o => by
  obtain ⟨v, rfl, o1⟩ := rsAll_1 o
  cases o1 with
  | @lst p xs _ e ha =>
    have ex := ints_of ha
    subst ex
    exact ⟨.int _, .int _, fun Q f => ⟨p, ns, rfl, SqL.of (hid_sub _ _ e), f⟩⟩) q
theorem cd_abs {i : Int} (q : k (.dat (.int (if i < 0 then -i else i))) L) : CD C (fun xs H Q => ∃ i, xs = [.int i] ∧ Q (.int (if i < 0 then -i else i)) H) [.dat (.int i)] L k := cd_val (fun vs H l o => by
  obtain ⟨v, rfl, o1⟩ := rsAll_1 o
  cases o1
  exact ⟨.int _, .int _, fun Q f => ⟨i, rfl, f⟩⟩) q
/-! isinstance -/
def tyN : PyData → String
  | .none => "NoneType"
  | .bool _ => "bool"
  | .int _ => "int"
  | .str _ => "str"
  | .list _ => "list"
  | .tuple _ => "tuple"
  | .dict _ => "dict"
def isD (d : PyData) (c : String) : Bool := tyN d == c || (tyN d == "bool" && c == "int")
theorem sqT_ty {H : Hp} {a : Addr} {xs : List V} (h : SqT K H a xs) : TyX K H (.ref a) (.type "tuple") := by
  rcases h with (h | ⟨o, h⟩) | ⟨o, its, n, h1, h2, _⟩
  · exact .base (.tup h)
  · exact .fTuple h
  · exact .kTuple h1 h2
theorem rp_ty {H : Hp} {v : V} {d : PyData} (h : Rp K H v d) : TyX K H v (.type (tyN d)) := by
  cases h with
  | non => exact .base .non
  | bl b => exact .base (.bl b)
  | int i => exact .base (.int i)
  | str x => exact .base (.str x)
  | lst e _ => exact .base (.lst e)
  | tup e _ => exact sqT_ty e
  | dct e _ =>
    rcases e with e | ⟨o, e⟩
    · exact .base (.dK e)
    · exact .fDict e
def okTy : List String := ["str", "int", "bool", "list", "tuple", "dict"]
theorem kit_all : (["NoneType", "bool", "int", "str", "list", "tuple", "dict"].all fun a => ["str", "int", "bool", "list", "tuple", "dict"].all fun c => kitB a c == some (a == c || (a == "bool" && c == "int"))) = true := by decide +kernel
theorem tyN_in (d : PyData) : tyN d ∈ ["NoneType", "bool", "int", "str", "list", "tuple", "dict"] := by
  cases d <;> simp [tyN]
theorem kit_d {d : PyData} {c : String} (h : c ∈ okTy) : PySem.W.kitOne K (.type (tyN d)) (.type c) = some (isD d c) := by
  refine kit_ty ?_
  have q := List.all_eq_true.mp (List.all_eq_true.mp kit_all _ (tyN_in d)) c h
  exact beq_iff_eq.mp q
theorem cd_isi {d : PyData} {c : String} (h : c ∈ okTy) (q : k (.dat (.bool (isD d c))) L) (hK : C.K = K := by rfl) : CD C (rIsi K) [.dat d, .raw (.ty c)] L k := by
  subst hK
  refine cd_val (fun vs H l o => ?_) q
  obtain ⟨v, w, rfl, o1, o2⟩ := rsAll_2 o
  have e : w = .ty c := o2
  subst e
  exact ⟨.bl _, .bl _, fun Q f => ⟨v, .ty c, .type (tyN d), .type c, isD d c, rfl, .ty c, rp_ty (rp_mono hid_sub o1), kit_d h, f⟩⟩
end

/-! ### methods -/
section
variable {C : Cz} {ε : Ev} {L : Led} {k : Rs → Led → Prop} {K : PySem.W.Frag} {te : TE} {ta : TA}
/-- a built-in's method by values -/
def MD (C : Cz) (r : V → List V → Hp → VK → Prop) (x : Rs) (xs : List Rs) (L : Led) (k : Rs → Led → Prop) : Prop :=
  ∀ (v : V) (vs : List V) (H : Hp) (Q : VK), LOk C.K L H → RsOk C.K L H v x → RsAll C.K L H vs xs → (∀ z s L' H', Grow H L H' L' → Keeps L L' → LOk C.K L' H' → RsOk C.K L' H' z s → k s L' → Q z H') → r v vs H Q
def rsTy (L : Led) : Rs → String → Prop
  | .dat d, T => tyN d = T ∧ (T = "str" ∨ T = "list")
  | .own a, T => ∃ m, (a, m) ∈ L ∧ m.ty = T
  | _, _ => False
theorem rs_tyV {H : Hp} {v : V} {x : Rs} {T : String} (l : LOk K L H) (h : RsOk K L H v x) (t : rsTy L x T) : tyV K T v H := by
  cases x with
  | dat d =>
    obtain ⟨t1, t2⟩ := t
    have h' : Rp K H v d := rp_mono hid_sub h
    cases h' with
    | non => rw [← t1] at t2; simp [tyN] at t2
    | bl b => rw [← t1] at t2; simp [tyN] at t2
    | int i => rw [← t1] at t2; simp [tyN] at t2
    | str x => subst t1; exact rfl
    | lst e _ => subst t1; exact .inl ⟨rfl, _, SqL.of e⟩
    | tup e _ => rw [← t1] at t2; simp [tyN] at t2
    | dct e _ => rw [← t1] at t2; simp [tyN] at t2
  | own a =>
    obtain ⟨rfl, ha⟩ := h
    obtain ⟨m, hm, rfl⟩ := t
    have q := l.at_ _ hm
    cases m with
    | drw =>
      obtain ⟨ns, e⟩ := q
      exact .inl ⟨rfl, _, SqL.of e⟩
    | lst ds =>
      obtain ⟨xs, e, _⟩ := q
      exact .inl ⟨rfl, _, SqL.of e⟩
    | dct kvs =>
      obtain ⟨xs, e, _⟩ := q
      exact .inr (.inr (.inl ⟨rfl, .inl ⟨_, e⟩⟩))
  | raw w => cases t
  | scr ns => cases t
theorem cp_bm {T : String} {r : V → List V → Hp → VK → Prop} (h : CP C te ε L fun x L1 => rsTy L1 x T ∧ CA C ta ε L1 fun xs L2 => MD C r x xs L2 k) (hK : C.K = K := by rfl) : CP C (tBM K T r te ta) ε L k := fun σ H Q R X z => by
  subst hK
  refine h σ H _ R X fun v x L1 H1 g1 k1 R1 o1 ⟨t, h1⟩ => ⟨rs_tyV R1.led o1 t, h1 σ H1 _ R1 (X.grow g1) fun vs xs L2 H2 g2 k2 R2 o2 q => ?_⟩
  exact q v vs H2 Q R2.led (o1.grow g2 k2) o2 fun u s L3 H3 g3 k3 l3 o3 q => z u s L3 H3 ((g1.trans g2).trans g3) ((k1.trans k2).trans k3) (R2.grow g3 k3 l3) o3 q
theorem cp_bm0 {T : String} {r : V → List V → Hp → VK → Prop} (h : CP C te ε L fun x L1 => rsTy L1 x T ∧ MD C r x [] L1 k) (hK : C.K = K := by rfl) : CP C (tBM0 K T r te) ε L k := fun σ H Q R X z => by
  subst hK
  refine h σ H _ R X fun v x L1 H1 g1 k1 R1 o1 ⟨t, q⟩ => ⟨rs_tyV R1.led o1 t, ?_⟩
  exact q v [] H1 Q R1.led o1 .nil fun u s L3 H3 g3 k3 l3 o3 q => z u s L3 H3 (g1.trans g3) (k1.trans k3) (R1.grow g3 k3 l3) o3 q
end
end Z

set_option Elab.async false
set_option linter.all false
set_option maxRecDepth 100000
set_option maxHeartbeats 2000000
/-! list(reversed(xs)) of a list -/
namespace ZRev
open PySem PySem.W PySem.Calls PyProof.Rows PySem.Spec
variable {prog : Program} {w : World} {A : Around} {E : Value → Shared → Prop}
theorem ext_rev {s : Shared} {R : Result → Shared → Prop} {it l : Addr} {items : Array Value} (hh : A.handled = none) (hit : s.heap.IsRevIter it l ((items.size : Int) - 1)) (hl : s.heap.IsList l items) (hne : l ≠ it) (hn : items.size ≤ sizeLine)
    (S : Addr) (hSi : S ≠ it) (hSl : S ≠ l) (res : Value) (c₀ : Nat) (hS : s.heap.get? S = some { cls := .type "list", data := .seq #[] c₀ })
    (hR : ∀ h' tk acc c, (∀ b o, b ≠ S → b ≠ it → s.heap.get? b = some o → h'.get? b = some o) → h'.get? S = some { cls := .type "list", dict := none, data := .seq acc c, slots := #[] } →
      ItemsOf (fun i v => items[items.size - 1 - i]? = some v) acc items.size → R (.ok (.ret res)) { s with heap := h', toks := tk }) :
    wpAny (model prog w) A.in1 (Builtin.List.listExtendWith (.ref S) (.ref it) res)
      (fun fin s' => match fin with
        | .done f => R (.ok f) s'
        | .again c' => c'.quiet = true ∧ codeAny (model prog w) A c' R s') (fun e s' => R (.error e) s') s := by
  have Wk := (Walks.listRev (prog := prog) (w := w) (A := A.in1) hh it l hne items).toS
  have nf : S ∉ [it, l] := by
    simp only [List.mem_cons, List.not_mem_nil, or_false, not_or]
    exact ⟨hSi, hSl⟩
  have tI : s.TypeIs (.ref it) "list_reverseiterator" := hit.typeIs
  have same : Builtin.List.listSameRef (.ref S) (.ref it) = false := by simp [Builtin.List.listSameRef, hSi]
  unfold Builtin.List.listExtendWith
  refine wpAny_bind (wpAny_typeOf tI ?_)
  rw [if_neg (by rw [same]; decide)]
  refine wpAny_bind (wpAny_pyIter_revIter hit ?_)
  refine wpAny_bind (wpAny_holding ?_)
  unfold Builtin.List.listLengthHint
  refine wpAny_bind (wpAny_specialOf tI RT.nolen_lri ?_)
  show wpAny _ A.in1 (specialOf (Value.ref it) (Str.ofString "__length_hint__") >>= _) _ _ _
  refine wpAny_bind (wpAny_specialOf tI RT.hint_lri ?_)
  generalize hd : ("list_reverseiterator.__length_hint__" : String) = nm
  wp_delta
  rw [show splitId nm = some ("list_reverseiterator", "__length_hint__") from by subst hd; decide +kernel]
  subst hd
  refine wpAny_bind (wpAny_isInstance (b := true) tI (by rw [isSubtype_type]; kernel_rfl) ?_)
  refine wpAny_pure ?_
  rw [if_neg (by decide)]
  have e0 : ((items.size : Nat) : Int) - 1 - ((0 : Nat) : Int) = (items.size : Int) - 1 := by omega
  refine wpAny_pure ⟨plainId_quiet F.plain_extend_loop _, codeAny_extend_loopS Wk hn S nf res items.size 0 _ #[] c₀ rfl (Nat.zero_le _) ⟨Nat.zero_le _, by rw [e0]; exact hit, hl⟩ hS (ItemsOf.nil _) fun s' acc c hm hS' hacc => ?_⟩
  rw [Moved.eq_with hm]
  refine hR s'.heap s'.toks acc c (fun b o hb hb2 e => hm.heap b o (fun hmem => ?_) e) hS' hacc
  rcases List.mem_cons.mp hmem with z | z
  · exact hb z
  · exact hb2 (List.mem_singleton.mp z)
theorem init_rev {s : Shared} {R : Result → Shared → Prop} {it l : Addr} {items : Array Value} (hh : A.handled = none) (hit : s.heap.IsRevIter it l ((items.size : Int) - 1)) (hl : s.heap.IsList l items) (hne : l ≠ it) (hn : items.size ≤ sizeLine)
    (S : Addr) (hSi : S ≠ it) (hSl : S ≠ l) (hS : s.heap.get? S = some { cls := .type "list", data := .seq #[] })
    (hR : ∀ h' tk acc c, (∀ b o, b ≠ S → b ≠ it → s.heap.get? b = some o → h'.get? b = some o) → h'.get? S = some { cls := .type "list", dict := none, data := .seq acc c, slots := #[] } →
      ItemsOf (fun i v => items[items.size - 1 - i]? = some v) acc items.size → R (.ok (.ret .none)) { s with heap := h', toks := tk }) :
    wpAny (model prog w) A.in1 (Builtin.«list.__init__» ⟨[.ref S, .ref it], []⟩)
      (fun fin s' => match fin with
        | .done f => R (.ok f) s'
        | .again c' => c'.quiet = true ∧ codeAny (model prog w) A c' R s') (fun e s' => R (.error e) s') s := by
  show wpAny _ _ (Builtin.List.listItems (.ref S) >>= fun old => Builtin.List.listUpdate (.ref S) (fun _ => #[]) >>= fun _ => letGo old.toList.reverse >>= fun _ => Builtin.List.listExtendWith (.ref S) (.ref it) .none) _ _ s
  refine wpAny_bind ?_
  unfold Builtin.List.listItems
  refine wpAny_bind (wpAny_seqItems hS rfl (wpAny_pure ?_))
  show wpAny _ _ (updateSeq S (fun _ => #[]) >>= fun _ => letGo (#[] : Array Value).toList.reverse >>= fun _ => Builtin.List.listExtendWith (.ref S) (.ref it) .none) _ _ s
  refine wpAny_bind (wpAny_updateSeq hS rfl ?_)
  have hS2 := Heap.get?_update_self (Obj.mapSeq (fun _ => (#[] : Array Value))) hS rfl
  have oth : ∀ b o, b ≠ S → s.heap.get? b = some o → (s.heap.update S (Obj.mapSeq (fun _ => (#[] : Array Value)))).get? b = some o := fun b o hb e => (Heap.get?_update_other _ _ (Ne.symm hb)).trans e
  refine wpAny_bind (wpAny_letGo ?_)
  exact ext_rev hh (hit.at fun o e => oth it o (Ne.symm hSi) e) (hl.at fun o e => oth l o (Ne.symm hSl) e) hne hn S hSi hSl .none _ hS2 fun h' tk acc c hk hS' hacc => hR h' tk acc c (fun b o hb hb2 e => hk b o hb hb2 (oth b o hb e)) hS' hacc
theorem call_list_rev {s : Shared} {it l : Addr} {items : Array Value} {Q : Value → Shared → Prop} (hh : A.handled = none) (hit : s.heap.IsRevIter it l ((items.size : Int) - 1)) (hl : s.heap.IsList l items) (hne : l ≠ it) (hn : items.size ≤ sizeLine)
    (hQ : ∀ h' tk acc c, (∀ b o, b ≠ it → s.heap.get? b = some o → h'.get? b = some o) → h'.get? s.heap.objs.size = some { cls := .type "list", dict := none, data := .seq acc c, slots := #[] } →
      ItemsOf (fun i v => items[items.size - 1 - i]? = some v) acc items.size → Q (.ref s.heap.objs.size) { s with heap := h', toks := tk }) :
    wpAny (model prog w) A (call (.type "list") [.ref it]) Q E s := by
  obtain ⟨oi, hoi, _⟩ := id hit
  obtain ⟨ol, hol, _⟩ := id hl
  refine callType_codes (Q₁ := fun obj s₁ => obj = .ref s.heap.objs.size ∧ s₁ = { s with heap := s.heap.push { cls := .type "list", data := .seq #[] } }) PySem.F.called_list (PySem.F.typeCall_list_1 _) PySem.F.entry_list_init (code_list_new _ ⟨rfl, rfl⟩) fun obj s₁ h₁ => ?_
  obtain ⟨rfl, rfl⟩ := h₁
  have hS : (s.heap.push { cls := .type "list", data := .seq #[] }).get? s.heap.objs.size = some { cls := .type "list", data := .seq #[] } := Heap.get?_push_size _ rfl
  refine ⟨⟨_, hS, rfl⟩, PySem.F.args_list_init_2 _ _, init_rev (A := A.in1) hh (hit.at fun o e => Heap.get?_push_of_some _ e) (hl.at fun o e => Heap.get?_push_of_some _ e) hne hn _ (Nat.ne_of_gt (Heap.lt_size hoi)) (Nat.ne_of_gt (Heap.lt_size hol)) hS fun h' tk acc c hk hS' hacc => ?_⟩
  exact ⟨rfl, hQ h' tk acc c (fun b o hb e => hk b o (Nat.ne_of_lt (Heap.lt_size e)) hb (Heap.get?_push_of_some _ e)) hS' hacc⟩
end ZRev
namespace Z
open PySem PySem.Spec PyProof.Rows L2
def tLRev (K : PySem.W.Frag) (te : TE) : TE := fun σ H Q => te σ H fun v H1 => ∃ (a : Addr) (xs : List V), v = .ref a ∧ SqL K H1 a xs ∧ ∀ q, H1 q = none → Q (.ref q) (upd H1 q (.lst xs.reverse))
theorem pe_lrev {X : Cx} {e : Expr} {te : TE} {p p2 pos pos2 : Pos} (hc : X.calm = true) (hg : Gl X "list") (hm : X.mg "list" = none) (hg2 : Gl X "reversed") (hm2 : X.mg "reversed" = none) (he : PE X e te)
    (hs : starEach [e] X.env = (false, eval e X.env) :: starEach [] X.env := by rfl)
    (hs2 : starEach [.Call (.Name "reversed" p2) [e] [] pos2] X.env = (false, eval (.Call (.Name "reversed" p2) [e] [] pos2) X.env) :: starEach [] X.env := by rfl) :
    PE X (.Call (.Name "list" p) [.Call (.Name "reversed" p2) [e] [] pos2] [] pos) (tLRev X.K te) := by
  refine ⟨fun pins s σ H Q I h => ?_⟩
  refine Call_ (ld_blt I hg hm boot_list (PyProof.Rows.callWith_type1 (args_cons (Call_ (ld_blt I hg2 hm2 PyProof.Rows.boot_reversed (PyProof.Rows.callWith_type1 (args_cons (thn (he.run pins s σ H _ I h) fun u s1 ⟨v, H1, I1, r1, q1⟩ => args_nil ?_) hs) hs rfl))) hs2) hs2 rfl))
  obtain ⟨a, xs, ev, hq, q⟩ := q1
  subst ev
  obtain rfl : u = Value.ref a := r1
  obtain ⟨its, rv, p', hz⟩ := I1.list hq
  refine call_reversed_list p'.isList (args_nil ?_)
  have I2 : Inv X pins σ H1 { s1 with heap := s1.heap.push (revObj a ((its.toArray.size : Int) - 1)) } := I1.kept (t' := s1.toks) fun b o e => Heap.get?_push_of_some _ e
  obtain ⟨f0, f1, f2, f3, f4, f5⟩ := I1.fpOk (H' := H1) (b := s1.heap.objs.size) (Nat.le_refl _) (I1.hok.fresh (Nat.le_refl _))
  have hl := p'.isList
  obtain ⟨ol, hol, _⟩ := id hl
  have hne : a ≠ s1.heap.objs.size := Nat.ne_of_lt (Heap.lt_size hol)
  have hn : its.toArray.size ≤ sizeLine := by rw [List.size_toArray, ← rv.length]; exact hz
  have hsz : (s1.heap.push (revObj a ((its.toArray.size : Int) - 1))).objs.size = s1.heap.objs.size + 1 := Heap.size_push ..
  refine ZRev.call_list_rev (s := { s1 with heap := s1.heap.push (revObj a ((its.toArray.size : Int) - 1)) }) (I1.ok.hd hc) ⟨_, Heap.get?_push_size _ rfl, rfl, rfl⟩ (hl.push _) hne hn fun h' tk acc c hk hS hi => ?_
  -- the new list stands behind the iterator's cell
  have hfree : H1 (s1.heap.objs.size + 1) = none := I1.hok.fresh (Nat.le_succ _)
  show EP X pins σ Q (.ref (s1.heap.push (revObj a ((its.toArray.size : Int) - 1))).objs.size) { s1 with heap := h', toks := tk }
  rw [hsz]
  rw [show ({ s1 with heap := s1.heap.push (revObj a ((its.toArray.size : Int) - 1)) } : Shared).heap.objs.size = s1.heap.objs.size + 1 from hsz] at hS
  refine ⟨.ref (s1.heap.objs.size + 1), upd H1 (s1.heap.objs.size + 1) (.lst xs.reverse), ?_, rfl, q _ hfree⟩
  refine I2.turnedNew (ch := [s1.heap.objs.size]) (fun b ob hb e => hk b ob (fun z => hb (by rw [z]; exact List.mem_cons_self)) e) (fun b hb => ?_) (by show (s1.heap.push _).objs.size ≤ _; rw [hsz]; exact Nat.le_refl _) ?_
  · rw [List.mem_singleton.mp hb]
    exact ⟨f0, f1, f2, f3, f4, f5⟩
  · exact ⟨by rw [List.length_reverse]; exact hz, acc.toList, c, RT.vals_rev rv hi, by rw [Array.toArray_toList]; exact hS⟩
end Z

set_option linter.all false
namespace Z
open PySem
theorem occ_one (x : Str) (c : Nat) : (Builtin.Str.occurrences x ⟨#[c]⟩ 0 x.length (x.length + 1)).length = x.cps.toList.count c := by
  have key : ∀ (n i fr : Nat) (found : Array Nat), found.size ≤ i → fr ≤ i → i + n = x.length + 1 →
      (forIn (List.range' i n) (found, fr) (StrLaws.occBody x ⟨#[c]⟩ x.length (x.length + 1))).run.fst.size = found.size + (x.cps.toList.drop i).count c := by
    intro n
    induction n with
    | zero =>
      intro i fr found hf hfr hi
      have e : x.cps.toList.drop i = [] := List.drop_eq_nil_of_le (by rw [Array.length_toList]; show x.length ≤ i; omega)
      rw [e]
      rfl
    | succ n ih =>
      intro i fr found hf hfr hi
      rw [List.range'_succ, List.forIn_cons]
      have hlen : (⟨#[c]⟩ : Str).length = 1 := rfl
      have hsub : Builtin.Str.subAt x ⟨#[c]⟩ i = ((x.cps.toList.drop i).take 1 == [c]) := StrLaws.subAt_eq x ⟨#[c]⟩ i
      by_cases hx : i < x.length
      · have hx' : i < x.cps.toList.length := by rw [Array.length_toList]; exact hx
        have ed : x.cps.toList.drop i = x.cps.toList[i] :: x.cps.toList.drop (i + 1) := List.drop_eq_getElem_cons hx'
        rw [ed] at hsub ⊢
        by_cases hc : x.cps.toList[i] = c
        · have hs : Builtin.Str.subAt x ⟨#[c]⟩ i = true := by rw [hsub, hc]; simp
          have hb : StrLaws.occBody x ⟨#[c]⟩ x.length (x.length + 1) i (found, fr) = pure (ForInStep.yield (found.push i, i + 1)) := by
            unfold StrLaws.occBody
            rw [if_pos ⟨⟨⟨by show found.size < _; omega, hfr⟩, by rw [hlen]; omega⟩, hs⟩]
            rfl
          rw [hb]
          show (forIn (List.range' (i + 1) n) (found.push i, i + 1) (StrLaws.occBody x ⟨#[c]⟩ x.length (x.length + 1))).run.fst.size = _
          rw [ih (i + 1) (i + 1) (found.push i) (by rw [Array.size_push]; omega) (Nat.le_refl _) (by omega), Array.size_push, List.count_cons, hc]
          simp
          omega
        · have hs : Builtin.Str.subAt x ⟨#[c]⟩ i = false := by rw [hsub, List.take_succ_cons, List.take_zero]; exact beq_eq_false_iff_ne.mpr (fun z => hc (List.cons.inj z).1)
          have hb : StrLaws.occBody x ⟨#[c]⟩ x.length (x.length + 1) i (found, fr) = pure (ForInStep.yield (found, fr)) := by
            unfold StrLaws.occBody
            rw [if_neg (by rw [hs]; simp)]
          rw [hb]
          show (forIn (List.range' (i + 1) n) (found, fr) (StrLaws.occBody x ⟨#[c]⟩ x.length (x.length + 1))).run.fst.size = _
          rw [ih (i + 1) fr found (by omega) (by omega) (by omega), List.count_cons, if_neg (fun z => hc (beq_iff_eq.mp z))]
          rfl
      · have e : x.cps.toList.drop i = [] := List.drop_eq_nil_of_le (by rw [Array.length_toList]; show x.length ≤ i; omega)
        have hb : StrLaws.occBody x ⟨#[c]⟩ x.length (x.length + 1) i (found, fr) = pure (ForInStep.yield (found, fr)) := by
          unfold StrLaws.occBody
          rw [if_neg (fun h => by have := h.1.2; rw [hlen] at this; omega)]
        rw [hb]
        show (forIn (List.range' (i + 1) n) (found, fr) (StrLaws.occBody x ⟨#[c]⟩ x.length (x.length + 1))).run.fst.size = _
        have hn : n = 0 := by omega
        subst hn
        rw [e]
        rfl
  rw [StrLaws.occ_eq, Array.length_toList]
  have q := key (x.length + 1) 0 0 #[] (Nat.zero_le _) (Nat.zero_le _) (by omega)
  simpa using q
end Z

set_option Elab.async false
set_option linter.all false
set_option maxRecDepth 100000
set_option maxHeartbeats 2000000
namespace Z
open PySem PySem.Spec PyProof.Rows L2
def natD (n : Nat) : PyData := .int (n : Int)
/-- the content at a is written anew -/
def up (L : Led) (a : Addr) (m : Mo) : Led := L.map fun p => if p.1 = a then (a, m) else p
theorem up_ks (L : Led) (a : Addr) (m : Mo) : (up L a m).ks = L.ks := by
  unfold up Led.ks
  rw [List.map_map]
  refine List.map_congr_left fun p _ => ?_
  show (if p.1 = a then (a, m) else p).1 = p.1
  by_cases h : p.1 = a
  · rw [if_pos h, h]
  · rw [if_neg h]
theorem up_plus {L : Led} {p : Addr} {a b : List PyData} (h : p ∉ L.ks) : up (plus L p a) p (.lst b) = plus L p b := by
  unfold up plus
  rw [List.map_append]
  congr 1
  · refine (List.map_congr_left fun q hq => ?_).trans (List.map_id L)
    have hn : q.1 ≠ p := fun z => h (by rw [← z]; exact List.mem_map.mpr ⟨q, hq, rfl⟩)
    rw [if_neg hn]
    rfl
  · simp
theorem mem_up {L : Led} {a : Addr} {m : Mo} (h : a ∈ L.ks) : (a, m) ∈ up L a m := by
  obtain ⟨p, hp, e⟩ := List.mem_map.mp h
  exact List.mem_map.mpr ⟨p, hp, if_pos e⟩
theorem mem_up_ne {L : Led} {a b : Addr} {m m' : Mo} (h : (b, m') ∈ L) (n : b ≠ a) : (b, m') ∈ up L a m := List.mem_map.mpr ⟨_, h, if_neg n⟩
theorem grow_up {H : Hp} {L : Led} {a : Addr} {m : Mo} {o : HO} (h : a ∈ L.ks) : Grow H L (upd H a o) (up L a m) :=
  ⟨fun b u e n => by rw [upd_ne (fun z : b = a => n (by rw [z]; exact h))]; exact e, fun b hb => .inl (by rw [← up_ks L a m]; exact hb)⟩
theorem keeps_up {L : Led} {a : Addr} {m : Mo} : Keeps L (up L a m) := fun x h => by rw [up_ks]; exact h
theorem LOk.uniq {K : PySem.W.Frag} {L : Led} {H : Hp} (l : LOk K L H) {a : Addr} {m m' : Mo} (h : (a, m) ∈ L) (h' : (a, m') ∈ L) : m = m' := by
  have nd := l.nd
  clear l
  unfold Led.ks at nd
  induction L with
  | nil => cases h
  | cons p r ih =>
    rw [List.map_cons, List.nodup_cons] at nd
    rcases List.mem_cons.mp h with e | h1
    · rcases List.mem_cons.mp h' with e' | h2
      · rw [← e] at e'
        exact (Prod.mk.inj e').2.symm
      · exact absurd (List.mem_map.mpr ⟨_, h2, by rw [← e]⟩) nd.1
    · rcases List.mem_cons.mp h' with e' | h2
      · exact absurd (List.mem_map.mpr ⟨_, h1, by rw [← e']⟩) nd.1
      · exact ih h1 h2 nd.2
theorem LOk.up {K : PySem.W.Frag} {L : Led} {H : Hp} {a : Addr} {ys : List V} {ds : List PyData} (l : LOk K L H) (h : a ∈ L.ks) (r : RpAll K (hid L H) ys ds) : LOk K (up L a (.lst ds)) (upd H a (.lst ys)) := by
  have ex : Ext (hid L H) (hid (Z.up L a (.lst ds)) (upd H a (.lst ys))) := (grow_up h).ext
  refine ⟨by rw [up_ks]; exact l.nd, fun p hp => ?_⟩
  obtain ⟨q, hq, e⟩ := List.mem_map.mp hp
  by_cases z : q.1 = a
  · rw [if_pos z] at e
    subst e
    exact ⟨ys, upd_same, rpAll_mono ex r⟩
  · rw [if_neg z] at e
    subst e
    have w := l.at_ q hq
    obtain ⟨b, m⟩ := q
    cases m with
    | drw =>
      obtain ⟨ns, w⟩ := w
      exact ⟨ns, by rw [upd_ne z]; exact w⟩
    | lst es =>
      obtain ⟨zs, w, y⟩ := w
      exact ⟨zs, by rw [upd_ne z]; exact w, rpAll_mono ex y⟩
    | dct es =>
      obtain ⟨zs, w, y⟩ := w
      exact ⟨zs, by rw [upd_ne z]; exact w, rpKv_mono ex y⟩
section
variable {C : Cz} {ε : Ev} {L : Led} {k : Rs → Led → Prop} {K : PySem.W.Frag} {te : TE} {ta : TA} {P : Post} {t : TS}
/-! ### lists that are written -/
theorem md_append {a : Addr} {ds : List PyData} {d : PyData} (m : (a, .lst ds) ∈ L) (hz : ds.length < sizeLine) (q : k (.dat .none) (up L a (.lst (ds ++ [d])))) : MD C rAppend (.own a) [.dat d] L k := fun v vs H Q l o1 o2 f => by
  obtain ⟨rfl, ha⟩ := o1
  obtain ⟨w, rfl, o⟩ := rsAll_1 o2
  obtain ⟨xs, ex, hx⟩ := l.isLst m
  exact ⟨a, xs, w, rfl, rfl, ex, by rw [rpAll_len hx]; exact hz, f _ (.dat .none) _ _ (grow_up ha) keeps_up (l.up ha (rpAll_app hx (rpAll_one o))) .non q⟩
theorem md_pop {a : Addr} {ds : List PyData} {d : PyData} (m : (a, .lst ds) ∈ L) (e : ds[ds.length - 1]? = some d) (q : k (.dat d) (up L a (.lst ds.dropLast))) : MD C rPop (.own a) [] L k := fun v vs H Q l o1 o2 f => by
  obtain ⟨rfl, ha⟩ := o1
  cases o2
  obtain ⟨xs, ex, hx⟩ := l.isLst m
  have hl := rpAll_len hx
  obtain ⟨w, ew, rw'⟩ := rpAll_get hx e
  have g : Grow H L (upd H a (.lst xs.dropLast)) (up L a (.lst ds.dropLast)) := grow_up ha
  have hd : RpAll C.K (hid L H) xs.dropLast ds.dropLast := by
    rw [List.dropLast_eq_take, List.dropLast_eq_take, hl]
    exact rpAll_take _ hx
  exact ⟨a, xs, w, rfl, rfl, ex, by rw [hl]; exact ew, f _ (.dat d) _ _ g keeps_up (l.up ha hd) (rp_mono g.ext rw') q⟩
theorem md_reverse {a : Addr} {ds : List PyData} (m : (a, .lst ds) ∈ L) (q : k (.dat .none) (up L a (.lst ds.reverse))) : MD C rReverse (.own a) [] L k := fun v vs H Q l o1 o2 f => by
  obtain ⟨rfl, ha⟩ := o1
  cases o2
  obtain ⟨xs, ex, hx⟩ := l.isLst m
  exact ⟨a, xs, rfl, rfl, ex, f _ (.dat .none) _ _ (grow_up ha) keeps_up (l.up ha (rpAll_rev hx)) .non q⟩
theorem md_extend {a : Addr} {ds es : List PyData} (m : (a, .lst ds) ∈ L) (hz : ds.length + es.length ≤ sizeLine) (q : k (.dat .none) (up L a (.lst (ds ++ es)))) : MD C rExtend (.own a) [.dat (.list es)] L k := fun v vs H Q l o1 o2 f => by
  obtain ⟨rfl, ha⟩ := o1
  obtain ⟨w, rfl, o⟩ := rsAll_1 o2
  obtain ⟨xs, ex, hx⟩ := l.isLst m
  cases o with
  | @lst b zs _ e hy => exact ⟨a, b, xs, zs, rfl, rfl, ex, hid_sub _ _ e, by rw [rpAll_len hx, rpAll_len hy]; exact hz, f _ (.dat .none) _ _ (grow_up ha) keeps_up (l.up ha (rpAll_app hx hy)) .non q⟩
/-- xs[i] = e -/
theorem hs_setL {to ti : TE} (h : CP C te ε L fun r L1 => ∃ d, r = .dat d ∧ CP C to ε L1 fun x L2 => ∃ a, x = .own a ∧ CP C ti ε L2 fun y L3 => ∃ (ds : List PyData) (i : Int) (j : Nat), y = .dat (.int i) ∧ (a, .lst ds) ∈ L3 ∧ ixN ds.length i = some j ∧ P.nx ε (up L3 a (.lst (ds.set j d)))) :
    HS C (tAsg te (gSub to ti rSetL)) ε L P := fun σ H D R X E =>
  h σ H _ R X fun v r L1 H1 g1 k1 R1 o1 ⟨d, er, h1⟩ => h1 σ H1 _ R1 (X.grow g1) fun w x L2 H2 g2 k2 R2 o2 ⟨a, ex, h2⟩ => h2 σ H2 _ R2 ((X.grow g1).grow g2) fun u y L3 H3 g3 k3 R3 o3 ⟨ds, i, j, ey, m, ej, q⟩ => by
    subst er ex ey
    obtain ⟨rfl, _⟩ := o2
    cases o3
    obtain ⟨xs, exs, hx⟩ := R3.led.isLst m
    have ha : a ∈ L3.ks := Led.key m
    have g : Grow H3 L3 (upd H3 a (.lst (xs.set j v))) (up L3 a (.lst (ds.set j d))) := grow_up ha
    have od : Rp C.K (hid L3 H3) v d := rp_mono (g2.trans g3).ext o1
    exact ⟨a, xs, i, j, rfl, rfl, exs, by rw [rpAll_len hx]; exact ej, E.nx ε _ σ _ (((g1.trans g2).trans g3).trans g) (R3.grow g keeps_up (R3.led.up ha (rpAll_set od j hx))) q⟩
/-! an owned list is read -/
theorem cd_len_own {a : Addr} {ds : List PyData} (m : (a, .lst ds) ∈ L) (q : k (.dat (.int (ds.length : Int))) L) : CD C (rLenZ K) [.own a] L k := cd_val (fun vs H l o => by
  obtain ⟨v, rfl, o1⟩ := rsAll_1 o
  obtain ⟨rfl, ha⟩ := o1
  obtain ⟨xs, ex, hx⟩ := l.isLst m
  exact ⟨.int _, .int _, fun Q f => ⟨.ref a, ds.length, rfl, .inl ⟨xs, SqL.of ex, (rpAll_len hx).symm⟩, f⟩⟩) q
theorem od_ix_own {a : Addr} {ds : List PyData} {i : Int} {d : PyData} (m : (a, .lst ds) ∈ L) (e : atI ds i = some d) (q : k (.dat d) L) (hK : C.K = K := by rfl) : OD C (rIx K) (.own a) (.dat (.int i)) L k := by
  subst hK
  refine od_or1 (od_val (fun v w H l o1 o2 => ?_) q)
  obtain ⟨rfl, ha⟩ := o1
  cases o2
  obtain ⟨xs, ex, hx⟩ := l.isLst m
  obtain ⟨v, e3, r⟩ := atI_rp hx e
  exact ⟨v, r, fun Q f => ⟨a, xs, i, v, rfl, rfl, SqL.of ex, e3, f⟩⟩
/-- list(reversed(xs)) -/
theorem cp_lrev {a : Addr} {ds : List PyData} (h : CP C te ε L fun r L1 => r = .own a ∧ (a, .lst ds) ∈ L1 ∧ ∀ p, p ∉ L1.ks → k (.own p) (plus L1 p ds.reverse)) (hK : C.K = K := by rfl) : CP C (tLRev K te) ε L k := fun σ H Q R X z => by
  subst hK
  refine h σ H _ R X fun v r L1 H1 g1 k1 R1 o1 ⟨er, m, q⟩ => ?_
  subst er
  obtain ⟨rfl, ha⟩ := o1
  obtain ⟨xs, ex, hx⟩ := R1.led.isLst m
  refine ⟨a, xs, rfl, SqL.of ex, fun p hp => ?_⟩
  have g2 : Grow H1 L1 (upd H1 p (.lst xs.reverse)) (plus L1 p ds.reverse) := grow_own hp
  exact z _ (.own p) _ _ (g1.trans g2) (k1.trans keeps_own) (R1.grow g2 keeps_own (R1.led.own hp (rpAll_rev hx))) ⟨rfl, Led.key (List.mem_append_right _ List.mem_cons_self)⟩ (q p (R1.led.fresh hp))

/-! ### texts -/
theorem md_count1 {x : Str} {c : Nat} (q : k (.dat (.int (x.cps.toList.count c : Nat))) L) : MD C (fun x xs H Q => ∃ a b, x = .str a ∧ xs = [.str b] ∧ Q (.int (Txt.count a b)) H) (.dat (.str x)) [.dat (.str ⟨#[c]⟩)] L k := fun v vs H Q l o1 o2 f => by
  cases o1
  obtain ⟨w, rfl, o⟩ := rsAll_1 o2
  cases o
  refine ⟨x, ⟨#[c]⟩, rfl, rfl, f _ (.dat (.int (x.cps.toList.count c : Nat))) L H (Grow.refl H L) (Keeps.refl L) l ?_ q⟩
  have e : Txt.count x ⟨#[c]⟩ = (x.cps.toList.count c : Nat) := by
    unfold Txt.count
    rw [occ_one]
  rw [e]
  exact .int _
abbrev rJoinZ (K : PySem.W.Frag) : V → List V → Hp → VK → Prop := fun x xs H Q => ∃ a p, ∃ ys : List Str, x = .str a ∧ xs = [.ref p] ∧ (SqL K H p (ys.map V.str) ∨ SqT K H p (ys.map V.str)) ∧ (ys.map (·.length)).sum + ys.length * a.length ≤ 16777216 ∧ Q (.str (Txt.join a ys)) H
theorem md_join {a : Str} {ys : List Str} (hz : (ys.map (·.length)).sum + ys.length * a.length ≤ 16777216) (q : k (.dat (.str (Txt.join a ys))) L) : MD C (rJoinZ K) (.dat (.str a)) [.dat (.list (ys.map PyData.str))] L k := fun v vs H Q l o1 o2 f => by
  cases o1
  obtain ⟨w, rfl, o⟩ := rsAll_1 o2
  cases o with
  | @lst p xs _ e hx =>
    have ex := strs_of hx
    subst ex
    exact ⟨a, p, ys, rfl, rfl, .inl (SqL.of (hid_sub _ _ e)), hz, f _ (.dat (.str (Txt.join a ys))) L H (Grow.refl H L) (Keeps.refl L) l (.str _) q⟩
theorem md_joinO {a : Str} {p : Addr} {ys : List Str} (m : (p, .lst (ys.map PyData.str)) ∈ L) (hz : (ys.map (·.length)).sum + ys.length * a.length ≤ 16777216) (q : k (.dat (.str (Txt.join a ys))) L) : MD C (rJoinZ K) (.dat (.str a)) [.own p] L k := fun v vs H Q l o1 o2 f => by
  cases o1
  obtain ⟨w, rfl, o⟩ := rsAll_1 o2
  obtain ⟨rfl, ha⟩ := o
  obtain ⟨xs, ex, hx⟩ := l.isLst m
  have e2 := strs_of hx
  subst e2
  exact ⟨a, p, ys, rfl, rfl, .inl (SqL.of ex), hz, f _ (.dat (.str (Txt.join a ys))) L H (Grow.refl H L) (Keeps.refl L) l (.str _) q⟩
end
/-! text * int -/
def rRepS : R2 := fun x y H Q => ∃ (a : Str) (n : Int), x = .str a ∧ y = .int n ∧ (a.length ≤ 16 ∧ -(2 ^ 63) ≤ n ∧ n ≤ 1048576) ∧ Q (.str (Txt.mul a n)) H
theorem op_repS {X : Cx} : OpR X (binaryOp .Mult) rRepS := by
  intro pins s σ H x y v u Q I rx ry h
  obtain ⟨a, n, rfl, rfl, hz, q⟩ := h
  obtain ⟨t, rfl⟩ := rx
  obtain ⟨t', rfl⟩ := ry
  exact SB.mul (mulOk_of 16 1048576 hz.1 hz.2.2 hz.2.1 (by decide) (by decide)) fun t' k => ⟨.str _, H, I.tok _, ⟨_, rfl⟩, q⟩
def rMulY (K : PySem.W.Frag) : R2 := fun x y H Q => rMulZ K x y H Q ∨ rRepS x y H Q
theorem op_mulY {X : Cx} : OpR X (binaryOp .Mult) (rMulY X.K) := op_mulZ.or op_repS
/-! list.count of texts -/
def rCntS (K : PySem.W.Frag) : V → List V → Hp → VK → Prop := fun x xs H Q => ∃ (p : Addr) (ys : List Str) (z : Str), x = .ref p ∧ xs = [.str z] ∧ SqL K H p (ys.map V.str) ∧ Q (.int (ys.count z : Nat)) H
theorem countIn_strs (z : Str) : ∀ ys : List Str, PySem.Spec.countIn (.str z) (ys.map PyData.str) = (ys.count z : Nat)
  | [] => rfl
  | y :: r => by
    rw [List.map_cons, List.count_cons]
    unfold PySem.Spec.countIn
    rw [countIn_strs z r]
    have e : PySem.Spec.same (.str y) (.str z) = (y == z) := by simp [PySem.Spec.same]
    rw [e]
    cases h : (y == z) with
    | true =>
      rw [if_pos rfl, if_pos rfl]
      omega
    | false =>
      rw [if_neg (by decide), if_neg (by decide)]
      omega
theorem mt_cntS {X : Cx} : MtR X "list.count" (rCntS X.K) := by
  intro pins s σ H x xs v us Q I rx rxs h
  obtain ⟨p, ys, z, rfl, rfl, hs, q⟩ := h
  cases rx
  obtain ⟨u, rfl, ru⟩ := rxs.one
  obtain ⟨t, rfl⟩ := ru
  obtain ⟨its, rv, pl, hlen⟩ := I.list hs
  refine count_list_strs pl.isList rv.strs ?_
  rw [countIn_strs]
  exact ⟨.int _, H, I.tok _, ⟨_, rfl⟩, q⟩
end Z

set_option Elab.async false
set_option linter.all false
set_option maxRecDepth 100000
set_option maxHeartbeats 2000000
namespace Z
open PySem PySem.Spec PyProof.Rows L2
theorem upd_id {H : Hp} {a : Addr} {o : HO} (h : H a = some o) : upd H a o = H := by
  funext b
  unfold upd
  by_cases e : b = a
  · rw [if_pos e, e, h]
  · rw [if_neg e]
theorem rpAll_nat {K : PySem.W.Frag} {H : Hp} (ns : List Nat) : RpAll K H (ns.map natV) (ns.map natD) := rpAll_map ns fun n _ => .int n
theorem nats_of {K : PySem.W.Frag} {H : Hp} : ∀ {vs : List V} {l : List Nat}, RpAll K H vs (l.map natD) → vs = l.map natV
  | _, [], .nil => rfl
  | _, i :: r, .cons h t => by
    cases h
    rw [nats_of t] <;> rfl
section
variable {C : Cz} {ε ε' : Ev} {L L' M2 : Led} {k : Rs → Led → Prop} {K : PySem.W.Frag} {te : TE} {P : Post} {t : TS} {H H' : Hp}
/-- the draws at l are some numbers -/
theorem LOk.open_ {l : Addr} (o : LOk K L H) (m : (l, .drw) ∈ L) : ∃ ns : List Nat, LOk K (Z.up L l (.lst (ns.map natD))) H := by
  obtain ⟨ns, e⟩ := o.isDrw m
  have q := o.up (ys := ns.map natV) (ds := ns.map natD) (Led.key m) (rpAll_nat ns)
  rw [upd_id e] at q
  exact ⟨ns, q⟩
theorem grow_re {L M2 : Led} (h : L.ks = M2.ks) : Grow H L H M2 := ⟨fun _ _ e _ => e, fun a ha => .inl (by rw [h]; exact ha)⟩
theorem keeps_re {L M2 : Led} (h : L.ks = M2.ks) : Keeps L M2 := fun a ha => by rw [← h]; exact ha
/-! ### less of the ledger -/
inductive MoLe : Mo → Mo → Prop
  | same (m : Mo) : MoLe m m
  | drw (ns : List Nat) : MoLe (.lst (ns.map natD)) .drw
def Wk (L' M2 : Led) : Prop := ∃ L1 : Led, L1.Sublist L' ∧ Paired (fun p q => q.1 = p.1 ∧ MoLe p.2 q.2) L1 M2
theorem paired_ks : ∀ {L1 M2 : Led}, Paired (fun p q => q.1 = p.1 ∧ MoLe p.2 q.2) L1 M2 → M2.ks = L1.ks
  | _, _, .nil => rfl
  | _, _, .cons h t => by
    unfold Led.ks
    rw [List.map_cons, List.map_cons, h.1]
    exact congrArg _ (paired_ks t)
theorem Wk.sub (w : Wk L' M2) : ∀ a ∈ M2.ks, a ∈ L'.ks := fun a ha => by
  obtain ⟨L1, s, p⟩ := w
  rw [paired_ks p] at ha
  exact (s.map Prod.fst).subset ha
theorem Wk.ext (w : Wk L' M2) : Ext (hid L' H) (hid M2 H) := fun a o e => by
  by_cases ha : a ∈ L'.ks
  · rw [hid_in ha] at e
    cases e
  · rw [hid_out ha] at e
    rw [hid_out fun z => ha (w.sub a z)]
    exact e
theorem Wk.back (w : Wk L' M2) : ∀ q ∈ M2, ∃ m, (q.1, m) ∈ L' ∧ MoLe m q.2 := fun q hq => by
  obtain ⟨L1, s, p⟩ := w
  have key : ∀ {L1 M2 : Led}, Paired (fun p q => q.1 = p.1 ∧ MoLe p.2 q.2) L1 M2 → q ∈ M2 → ∃ m, (q.1, m) ∈ L1 ∧ MoLe m q.2 := by
    intro L1 M2 pp
    induction pp with
    | nil => intro h; cases h
    | cons h t ih =>
      intro hm
      rcases List.mem_cons.mp hm with e | e
      · subst e
        exact ⟨_, by rw [h.1]; exact List.mem_cons_self, h.2⟩
      · obtain ⟨m, a, b⟩ := ih e
        exact ⟨m, List.mem_cons_of_mem _ a, b⟩
  obtain ⟨m, a, b⟩ := key p hq
  exact ⟨m, s.subset a, b⟩
theorem LOk.wk (l : LOk K L' H) (w : Wk L' M2) : LOk K M2 H := by
  refine ⟨?_, fun q hq => ?_⟩
  · obtain ⟨L1, s, p⟩ := w
    rw [paired_ks p]
    exact (s.map Prod.fst).nodup l.nd
  · obtain ⟨m, hm, le⟩ := w.back q hq
    have o := l.at_ _ hm
    obtain ⟨a, m2⟩ := q
    have le : MoLe m m2 := le
    have o : MoOk K L' H a m := o
    generalize hm2 : m2 = mm at le
    cases le with
    | same =>
      subst hm2
      cases m2 with
      | drw => exact o
      | lst ds =>
        obtain ⟨xs, e, r⟩ := o
        exact ⟨xs, e, rpAll_mono w.ext r⟩
      | dct ds =>
        obtain ⟨xs, e, r⟩ := o
        exact ⟨xs, e, rpKv_mono w.ext r⟩
    | drw ns =>
      obtain ⟨xs, e, r⟩ := o
      have ex := nats_of r
      subst ex
      exact ⟨ns, e⟩
theorem Grow.wk (g : Grow H L H' L') (w : Wk L' M2) : Grow H L H' M2 := ⟨g.old, fun a ha => g.new a (w.sub a ha)⟩
theorem Grow.wk1 (g : Grow H M2 H' L) (w : Wk L' M2) : Grow H L' H' L := ⟨fun a o e n => g.old a o e fun z => n (w.sub a z), fun a ha => (g.new a ha).imp_left fun z => w.sub a z⟩
inductive RsWk (L' M2 : Led) : Rs → Rs → Prop
  | dat (d : PyData) : RsWk L' M2 (.dat d) (.dat d)
  | raw (v : V) : RsWk L' M2 (.raw v) (.raw v)
  | scr (ns : List Int) : RsWk L' M2 (.scr ns) (.scr ns)
  | own {a : Addr} (h : a ∈ M2.ks) : RsWk L' M2 (.own a) (.own a)
  | frz {a : Addr} {ds : List PyData} (m : (a, .lst ds) ∈ L') (h : a ∉ M2.ks) : RsWk L' M2 (.own a) (.dat (.list ds))
  | frzM {a : Addr} {kvs : List (Key × PyData)} (m : (a, .dct kvs) ∈ L') (h : a ∉ M2.ks) : RsWk L' M2 (.own a) (.dat (.dict (kvs.map fun p => (kD p.1, p.2))))
theorem RsOk.wk {v : V} {r r2 : Rs} (o : RsOk K L' H v r) (l : LOk K L' H) (w : Wk L' M2) (x : RsWk L' M2 r r2) : RsOk K M2 H v r2 := by
  cases x with
  | dat d => exact rp_mono w.ext o
  | raw v => exact o
  | scr ns =>
    obtain ⟨a, e, h⟩ := o
    exact ⟨a, e, ext_l w.ext h⟩
  | own h => exact ⟨o.1, h⟩
  | frz m h =>
    obtain ⟨rfl, _⟩ := o
    obtain ⟨xs, e, r⟩ := l.isLst m
    exact .lst (by rw [hid_out h]; exact e) (rpAll_mono w.ext r)
  | frzM m h =>
    obtain ⟨rfl, _⟩ := o
    obtain ⟨xs, e, r⟩ := l.at_ _ m
    exact .dct (.inl (by rw [hid_out h]; exact e)) (rpKv_mono w.ext r)
def EvWk (L' M2 : Led) (ε ε2 : Ev) : Prop := ε.length = ε2.length ∧ ∀ (i : Nat) (r2 : Rs), ε2[i]? = some (some r2) → ∃ r, ε[i]? = some (some r) ∧ RsWk L' M2 r r2
theorem Rel.wk {σ : L2.St} (R : Rel K L' ε σ H) (w : Wk L' M2) (e : EvWk L' M2 ε ε') : Rel K M2 ε' σ H := by
  refine ⟨R.len.trans e.1, fun i r2 hr => ?_, R.led.wk w⟩
  obtain ⟨r, e1, x⟩ := e.2 i r2 hr
  obtain ⟨v, e2, o⟩ := R.slot i r e1
  exact ⟨v, e2, o.wk R.led w x⟩
theorem hs_wk (w : Wk L' M2) (e : EvWk L' M2 ε ε') (h : HS C t ε' M2 P) : HS C t ε L' P := fun σ H D R X E =>
  h σ H D (R.wk w e) (fun c e' s' l' h' g => X c e' s' l' h' (g.wk1 w)) ⟨fun e' l' s' h' g => E.nx e' l' s' h' (g.wk1 w), fun v r l' h' g => E.rt v r l' h' (g.wk1 w), fun e' l' s' h' g => E.bk e' l' s' h' (g.wk1 w), fun e' l' s' h' g => E.ct e' l' s' h' (g.wk1 w)⟩
theorem hs_retW (h : CP C te ε L fun r L1 => ∃ M2 r2, Wk L1 M2 ∧ RsWk L1 M2 r r2 ∧ P.rt r2 M2) : HS C (tRet te) ε L P := fun σ H D R X E =>
  h σ H _ R X fun v r L1 H1 g1 k1 R1 o1 ⟨M2, r2, w, x, q⟩ => E.rt v r2 M2 H1 (g1.wk w) (R1.led.wk w) (o1.wk R1.led w x) q
theorem paired_le_refl : ∀ L : Led, Paired (fun p q => q.1 = p.1 ∧ MoLe p.2 q.2) L L
  | [] => .nil
  | p :: r => .cons ⟨rfl, .same _⟩ (paired_le_refl r)
theorem wk_of_sub (h : M2.Sublist L') : Wk L' M2 := ⟨M2, h, paired_le_refl M2⟩
theorem wk_plus {p : Addr} {ds : List PyData} : Wk (plus L p ds) L := wk_of_sub (List.sublist_append_left _ _)
theorem wk_refl : Wk L L := wk_of_sub (List.Sublist.refl _)
/-- numbers at l: draws again -/
theorem wk_drw {l : Addr} {ns : List Nat} (m : (l, .drw) ∈ L) : Wk (up L l (.lst (ns.map natD))) (up L l .drw) := by
  refine ⟨_, List.Sublist.refl _, ?_⟩
  clear m
  unfold up
  induction L with
  | nil => exact .nil
  | cons p r ih =>
    refine .cons ?_ ih
    show (if p.1 = l then (l, Mo.drw) else p).1 = (if p.1 = l then (l, Mo.lst (ns.map natD)) else p).1 ∧ MoLe (if p.1 = l then (l, Mo.lst (ns.map natD)) else p).2 (if p.1 = l then (l, Mo.drw) else p).2
    by_cases h : p.1 = l
    · rw [if_pos h, if_pos h]
      exact ⟨rfl, .drw ns⟩
    · rw [if_neg h, if_neg h]
      exact ⟨rfl, .same _⟩
theorem up_up {l : Addr} {m m' : Mo} : up (up L l m) l m' = up L l m' := by
  unfold up
  rw [List.map_map]
  refine List.map_congr_left fun p _ => ?_
  show (if (if p.1 = l then (l, m) else p).1 = l then (l, m') else (if p.1 = l then (l, m) else p)) = _
  by_cases h : p.1 = l
  · rw [if_pos h, if_pos rfl, if_pos h]
  · rw [if_neg h, if_neg h]
theorem up_self {l : Addr} {m : Mo} (u : ∀ m', (l, m') ∈ L → m' = m) : up L l m = L := by
  unfold up
  refine (List.map_congr_left fun p hp => ?_).trans (List.map_id L)
  by_cases h : p.1 = l
  · rw [if_pos h]
    obtain ⟨a, m2⟩ := p
    have h' : a = l := h
    subst h'
    rw [u m2 hp]
    rfl
  · rw [if_neg h]
    rfl
theorem wk_back {l : Addr} {ns : List Nat} (e : up L l .drw = L) : Wk (up L l (.lst (ns.map natD))) L := by
  have w : Wk (up L l (.lst (ns.map natD))) (up L l .drw) := by
    refine ⟨_, List.Sublist.refl _, ?_⟩
    unfold up
    clear e
    induction L with
    | nil => exact .nil
    | cons p r ih =>
      refine .cons ?_ ih
      show (if p.1 = l then (l, Mo.drw) else p).1 = (if p.1 = l then (l, Mo.lst (ns.map natD)) else p).1 ∧ MoLe (if p.1 = l then (l, Mo.lst (ns.map natD)) else p).2 (if p.1 = l then (l, Mo.drw) else p).2
      by_cases h : p.1 = l
      · rw [if_pos h, if_pos h]
        exact ⟨rfl, .drw ns⟩
      · rw [if_neg h, if_neg h]
        exact ⟨rfl, .same _⟩
  rw [e] at w
  exact w
theorem hs_open {l : Addr} (m : (l, .drw) ∈ L) (h : ∀ ns : List Nat, up L l .drw = L → HS C t ε (up L l (.lst (ns.map natD))) P) : HS C t ε L P := fun σ H D R X E => by
  obtain ⟨ns, o⟩ := R.led.open_ m
  have g : Grow H L H (up L l (.lst (ns.map natD))) := grow_re (up_ks _ _ _).symm
  exact h ns (up_self fun m' hm => R.led.uniq hm m) σ H D (R.grow g (keeps_re (up_ks _ _ _).symm) o) (X.grow g) (E.grow g)
/-- an owned list is given up at the statement: all names of it are data -/
def frz (p : Addr) (ds : List PyData) : Option Rs → Option Rs
  | some (.own a) => if a = p then some (.dat (.list ds)) else some (.own a)
  | r => r
theorem hs_frz {p : Addr} {ds : List PyData} (hp : p ∉ L.ks) (ho : ∀ a, some (Rs.own a) ∈ ε → a = p ∨ a ∈ L.ks) (h : HS C t (ε.map (frz p ds)) L P) : HS C t ε (plus L p ds) P := by
  refine hs_wk wk_plus ⟨by rw [List.length_map], fun i r2 hr => ?_⟩ h
  rw [List.getElem?_map] at hr
  cases e : ε[i]? with
  | none =>
    rw [e] at hr
    cases hr
  | some o =>
    rw [e] at hr
    cases o with
    | none => cases hr
    | some r =>
      refine ⟨r, rfl, ?_⟩
      cases r with
      | dat d => cases hr; exact .dat d
      | raw v => cases hr; exact .raw v
      | scr ns => cases hr; exact .scr ns
      | own a =>
        have hr' : frz p ds (some (.own a)) = some r2 := by
          have := hr
          simpa using this
        have hr' : (if a = p then some (Rs.dat (.list ds)) else some (.own a)) = some r2 := hr'
        by_cases z : a = p
        · rw [if_pos z] at hr'
          cases hr'
          subst z
          exact .frz (List.mem_append_right _ List.mem_cons_self) hp
        · rw [if_neg z] at hr'
          cases hr'
          rcases ho a (List.mem_of_getElem? e) with q | q
          · exact absurd q z
          · exact .own q
end
end Z

set_option Elab.async false
set_option linter.all false
set_option maxRecDepth 100000
set_option maxHeartbeats 2000000
/-! errors: raise, try .. except Base as e, a def called with the error in the suite -/
namespace Z
open PySem PySem.Spec PyProof.Rows L2
/-- what a def promises that is called within an except suite with the error itself: a its address, D its class -/
structure FnQ (P : Program) (w : World) (K : PySem.W.Frag) (mg : Str → Option Value) (base : Heap) (k : Nat) (f : Addr) (fd : FuncData) (ps : List Str) (sp : Addr → Addr → Sp) : Prop where
  len : ∀ a D vs H Q E, sp a D vs H Q E → vs.length = ps.length
  run : ∀ (A : Around) (outer : List Env) (s : Shared) (H : Hp) (args : Args) (us : List Value) (vs : List V) (Q : VK) (p : Addr × Obj) (D : Addr), L2H.RoomH k A → L2H.PinOk outer H s p → Zc (.ref D) none p.2 → (∃ fs, p.2.data = .fields fs) →
    Env0 P w K mg base A outer s H → BindsTo s fd args (ps.zip us) → Vals vs us → sp p.1 D vs H Q E0 → codeAny (model P w) A (.call (.ref f) args) (CR CX0 outer P w H s Q E0) s
section
variable {P : Program} {w : World} {K : PySem.W.Frag} {mg : Str → Option Value} {base : Heap}
theorem fn_q {k : Nat} {f : Addr} {fd : FuncData} {x qual : Str} {st : Stmt} {N ps : List Str} {sp : Addr → Addr → Sp} (F : Fun K x qual st f fd) (S : FnScope N ps (defScope st)) (len : ∀ a D vs H Q E, sp a D vs H Q E → vs.length = ps.length)
    (body : ∀ (cdv : Value) (A : Around) (outer : List Env) (s : Shared) (H : Hp) (vs : List V) (Q : VK) (p : Addr × Obj) (D : Addr), L2H.RoomH k (A.deeper (envOfC qual (defScope st) s.heap.objs.size f cdv)) → Zc (.ref D) none p.2 → (∃ fs, p.2.data = .fields fs) → sp p.1 D vs H Q E0 →
      ∃ t, PSs (L2H.cxH CX0 P w K mg base N qual (defScope st) f cdv A outer s H E0 p) (defBody st) t ∧ t { nx := fun _ H' => Q .non H', rt := Q } (L2.start N vs) H) :
    FnQ P w K mg base (k + 1) f fd ps sp := by
  obtain ⟨oc, od, kV, doc, pm, an, cdv, ct, osl, rfl, lk, hcd⟩ := F.ex
  refine ⟨len, fun A outer s H args us vs Q p D hr hpin hz hfs e0 hb r hsp => ?_⟩
  have old : ∀ b o, base.get? b = some o → s.heap.get? b = some o := fun b o e => (e0.bs b o e).1
  have inK : K.In s.heap := e0.mod.kin.keeps old
  have par : ∀ y ∈ ps.zip us, (defScope st).names.lookup y.1 = some .local ∨ ((defScope st).names.lookup y.1 = some .cell ∧ ((cellsFrom (s.heap.objs.size + 1) (defScope st).names []).lookup y.1).isSome = true) := fun ⟨n, v⟩ hy => by
    rcases S.par n (List.of_mem_zip hy).1 with q | q
    · exact .inl q
    · exact .inr ⟨q, PySem.W.cellsFrom_some _ _ _ (.inl q)⟩
  refine codeAny_call_function hr.depth (inK _ _ lk) rfl S.co S.gen rfl (PySem.W.codeRec_of inK hcd) (hb _ _ _ _ (wpAny_newFunctionEnv_cells S.kind par fun env he s1 x => ?_))
  subst he
  refine ⟨(e0.mod.nolimit.keeps old).keeps x.toInCall.keep, codeAny_func ?_⟩
  obtain ⟨t, ht, hq⟩ := body cdv A outer s H vs Q p D (hr.deeper _) hz hfs hsp
  have J : Inv (L2H.cxH CX0 P w K mg base N qual (defScope st) f cdv A outer s H E0 p) [] (L2.start N vs) H s1 := L2H.inv_startH S hpin e0 (len _ _ _ _ _ _ hsp) r x
  refine wpAny_mono (ht.run [] s1 (L2.start N vs) H _ J hq) (fun fl s2 h2 => ?_) fun e s2 h2 => h2
  have done : ∀ {σ2 : L2.St} {H2 : Hp} {v : V} {u : Value}, Inv (L2H.cxH CX0 P w K mg base N qual (defScope st) f cdv A outer s H E0 p) [] σ2 H2 s2 → RelV v u → Q v H2 → CE outer P w H s Q u s2 := fun {σ2 H2 v u} I rv q => ⟨v, H2, I.os, I.bare, I.base, I.hok, rv, q⟩
  cases fl with
  | ret u => exact let ⟨v, σ2, H2, I, rv, q⟩ := h2; done I rv q
  | next => exact let ⟨σ2, H2, I, q⟩ := h2; done (v := V.non) (u := Value.none) I rfl q
  | brk => exact let ⟨_, _, _, q⟩ := h2; False.elim q
  | cont => exact let ⟨_, _, _, q⟩ := h2; False.elim q
end
/-- its call in the suite that holds the error at a -/
def tCallQ (sp : Addr → Addr → Sp) (a : Addr) (cls : Value) (d : Option Addr) (t : TA) : TE := fun σ H Q => d = none ∧ ∃ D, cls = .ref D ∧ t σ H fun vs H1 => sp a D vs H1 Q E0
theorem pe_callQ {X : Cx} {k : Nat} {f : Addr} {fd : FuncData} {ps : List Str} {sp : Addr → Addr → Sp} {x : Str} {q pos : Pos} {e : Expr} {es : List Expr} {t : TA} {a : Addr} {oe : Obj} {cls : Value} {d : Option Addr} {pn : List (Addr × Obj)}
    (F : FnQ X.prog X.w X.K X.mg X.base k f fd ps sp) (hr : L2H.RoomH k (X.A.mark (some (.ref a)))) (hz : Zc cls d oe) (hfs : ∃ vs, oe.data = .fields vs) (hg : Gl X x) (hm : X.mg x = some (.ref f)) (hk : PySem.W.keepIn X.K (.ref f) = true) (hb : Binds X.K fd ps [])
    (ha : PA (X.suite a ((a, oe) :: pn)) (e :: es) t) (hdb : (x == ("__debug__" : Str)) = false := by decide) (he : starEach (e :: es) X.env = (false, eval e X.env) :: starEach es X.env := by rfl) (hpl : (backTo pos (starEach es X.env)).any (·.1) = false := by rfl) :
    PE (X.suite a ((a, oe) :: pn)) (.Call (.Name x q) (e :: es) [] pos) (tCallQ sp a cls d t) := by
  refine ⟨fun pins s σ H Q I h => ?_⟩
  obtain ⟨rfl, D, rfl, h⟩ := h
  refine wpAny_Call_Name_kw (ld_glob (X := X.suite a ((a, oe) :: pn)) I hg hm ?_ hdb)
  refine PySem.W.callWith_K (h₀ := X.base) I.ok.mod.kin hk (thn (ha.run pos pins s σ H _ I h) fun us s1 ⟨vs, H1, I1, r, q⟩ => ⟨I1.kIn, ?_⟩) he hpl
  have hl : us.length = ps.length := by
    rw [← r.length]
    exact F.len _ _ _ _ _ _ q
  have b := hb s1 us I1.kIn (by rw [List.append_nil]; exact hl)
  rw [List.append_nil] at b
  have P1 := I1.pin (a, oe) (List.mem_append_left _ List.mem_cons_self)
  have pin : L2H.PinOk X.stack H1 s1 (a, oe) := ⟨P1.1, P1.2.1, fun hm => (List.mem_cons.mp (I1.stkSub a hm)).elim P1.2.2.1 P1.2.2.2.1, P1.2.2.2.2⟩
  refine wpAny_call (codeAny_mono (F.run (X.A.mark (some (.ref a))) X.stack s1 H1 ⟨us, []⟩ us vs Q (a, oe) D hr pin hz hfs I1.env0 b r q) fun res s2 hq => ?_)
  cases res with
  | error e => exact False.elim hq
  | ok fl =>
    cases fl with
    | ret u => exact I1.after hq
    | next => exact False.elim hq
    | brk => exact False.elim hq
    | cont => exact False.elim hq
/-- isinstance(e, c) in such a def -/
theorem call_isQ {X : Cx} {p : Addr × Obj} {D : Addr} (C : ExcC X.K D) (hp : p ∈ X.pn) (hz : Zc (.ref D) none p.2) (hf : ∃ vs, p.2.data = .fields vs) : CallR X (.builtin "isinstance") (rIsE X.K D p.1) := by
  intro pins s σ H xs us Q I r h
  obtain ⟨c, cv, b, rfl, hcv, e, q⟩ := h
  obtain ⟨u1, u2, rfl, r1, r2⟩ := Vals.two r
  obtain rfl : u1 = Value.ref p.1 := r1
  have ec := hcv _ r2
  subst ec
  obtain ⟨hget, _⟩ := I.pin p (List.mem_append_left _ hp)
  obtain ⟨vs, hv⟩ := hf
  obtain ⟨pa, po⟩ := p
  obtain ⟨oc, od, oda, osl⟩ := po
  obtain ⟨h1, h2⟩ := hz
  dsimp only at h1 h2 hv hget
  subst h1 h2 hv
  have J : PySem.W.InstAt s.heap pa ⟨.ref D, none, .fields vs, osl⟩ D none := ⟨hget, rfl, rfl, trivial⟩
  exact PySem.W.kia_one (PySem.W.handS_kitx_exc C.hg C.hk C.hs C.hd C.ha C.hn C.ht C.hm) I.kIn J e (fun z => nomatch z) fun tk => ⟨.bl b, H, I.kept (t' := tk) fun _ _ z => z, rfl, q⟩
/-- the flags of an error of the class D: isinstance with each of the classes cs -/
def spFlags (K : PySem.W.Frag) (cs : List Addr) : Addr → Addr → Sp := fun a D vs H Q _ => vs = [.ref a] ∧ ExcC K D ∧ ∃ bs : List Bool, Paired (fun c b => PySem.W.kitOne K (.ref D) (.ref c) = some b) cs bs ∧ ∀ p, H p = none → Q (.ref p) (upd H p (.lst (bs.map V.bl)))

section
variable {C : Cz} {ε : Ev} {L : Led} {k : Rs → Led → Prop} {ta : TA} {P : Post}
/-- raise -/
theorem hs_raise {c : Addr} (h : C.kx c ε L) : HS C (fun _ σ H => C.W (.ref c) none σ H) ε L P := fun σ H D R X E => X c ε σ L H (Grow.refl H L) R h
/-- try: .. except c₀ as n (slot i) -/
theorem hs_tryAs {K : PySem.W.Frag} {c₀ : Value} {i : Nat} {tb : WX → TS} {ts : Addr → Value → Option Addr → TS} {Wout : WX} (kx : KX) (hb : ∀ W, HS ⟨C.K, W, kx⟩ (tb W) ε L P)
    (hx : ∀ c ε' L', kx c ε' L' → PySem.W.exmOne K (.ref c) c₀ = some true ∧ ∀ a, HS C (ts a (.ref c) none) (ε'.set i (some (.raw (.ref a)))) L' { nx := fun e l => P.nx (e.set i none) l, rt := P.rt, bk := fun e l => P.bk (e.set i none) l, ct := fun e l => P.ct (e.set i none) l }) (hK : C.K = K := by rfl) :
    HS C (fun D σ H => tb (wAs K c₀ i ts Wout D) D σ H) ε L P := fun σ H D R X E => by
  subst hK
  refine hb (wAs C.K c₀ i ts Wout D) σ H D R (fun c e' s' l' h' g r q => ?_) E
  obtain ⟨hm, hs⟩ := hx c e' l' q
  refine ⟨true, hm, fun _ a ha => ?_, fun z => nomatch z⟩
  exact hs a _ h' _ (rel_set r rfl) (X.grow g) ⟨fun e2 l2 s2 h2 g2 r2 q2 => (E.grow g).nx _ l2 _ h2 g2 (rel_none r2 i) q2, (E.grow g).rt, fun e2 l2 s2 h2 g2 r2 q2 => (E.grow g).bk _ l2 _ h2 g2 (rel_none r2 i) q2, fun e2 l2 s2 h2 g2 r2 q2 => (E.grow g).ct _ l2 _ h2 g2 (rel_none r2 i) q2⟩
/-- flags(e) in the suite -/
theorem cp_flags {K : PySem.W.Frag} {cs : List Addr} {a c : Addr} {bs : List Bool} (x : ExcC K c) (hp : Paired (fun c' b => PySem.W.kitOne K (.ref c) (.ref c') = some b) cs bs) (h : CA C ta ε L fun rs L1 => rs = [.raw (.ref a)] ∧ k (.dat (.list (bs.map PyData.bool))) L1) : CP C (tCallQ (spFlags K cs) a (.ref c) none ta) ε L k := fun σ H Q R X z =>
  ⟨rfl, c, rfl, h σ H _ R X fun vs rs L1 H1 g1 k1 R1 o1 ⟨e, q⟩ => by
    subst e
    obtain ⟨v, rfl, o⟩ := rsAll_1 o1
    have o' : v = .ref a := o
    subst o'
    refine ⟨rfl, x, bs, hp, fun p hp => ?_⟩
    have g2 : Grow H1 L1 (upd H1 p (.lst (bs.map V.bl))) L1 := grow_new hp
    exact z _ (.dat (.list (bs.map PyData.bool))) L1 _ (g1.trans g2) k1 (R1.grow g2 (Keeps.refl _) (R1.led.new hp)) (.lst (by rw [hid_out (R1.led.fresh hp)]; exact upd_same) (rpAll_bools bs)) q⟩
end
end Z

set_option Elab.async false
set_option linter.all false
set_option maxRecDepth 100000
set_option maxHeartbeats 2000000
namespace Z
open PySem PySem.Spec PyProof.Rows L2
def rtOk (L : Led) (k : Rs → Led → Prop) (r : Rs) (L' : Led) : Prop := ∃ L2 r2, Wk L' L2 ∧ RsWk L' L2 r r2 ∧ Keeps L L2 ∧ k r2 L2
theorem rt_dat {L : Led} {k : Rs → Led → Prop} {d : PyData} (h : k (.dat d) L) : rtOk L k (.dat d) L := ⟨L, _, wk_refl, .dat d, Keeps.refl L, h⟩
/-- behind local lists -/
theorem rt_sub {L L' : Led} {k : Rs → Led → Prop} {d : PyData} (s : L.Sublist L') (h : k (.dat d) L) : rtOk L k (.dat d) L' := ⟨L, _, wk_of_sub s, .dat d, Keeps.refl L, h⟩
theorem rt_plus {L : Led} {k : Rs → Led → Prop} {d : PyData} {p : Addr} {ds : List PyData} (h : k (.dat d) L) : rtOk L k (.dat d) (plus L p ds) := rt_sub (List.sublist_append_left _ _) h
/-- a local list is handed out -/
theorem rt_own {L : Led} {k : Rs → Led → Prop} {p : Addr} {ds : List PyData} (hp : p ∉ L.ks) (h : k (.dat (.list ds)) L) : rtOk L k (.own p) (plus L p ds) := ⟨L, _, wk_plus, .frz (List.mem_append_right _ List.mem_cons_self) hp, Keeps.refl L, h⟩
theorem rt_draws {L : Led} {k : Rs → Led → Prop} {l : Addr} {ns : List Nat} {d : PyData} (e : up L l .drw = L) (h : k (.dat d) L) : rtOk L k (.dat d) (up L l (.lst (ns.map natD))) := ⟨L, _, wk_back e, .dat d, Keeps.refl L, h⟩
def dPost (L : Led) (k : Rs → Led → Prop) : Post := { nx := fun _ L' => rtOk L k (.dat .none) L', rt := rtOk L k }
theorem run_body {C : Cz} {t : TS} {H : Hp} {N : List Str} {vs : List V} {rs : List Rs} {L : Led} {k : Rs → Led → Prop} {Q : VK} (h : HS C t (ev0 N.length rs) L (dPost L k)) (o : RsAll C.K L H vs rs) (l : LOk C.K L H) (X : ExOk C L H)
    (z : ∀ v r L' H', Grow H L H' L' → Keeps L L' → LOk C.K L' H' → RsOk C.K L' H' v r → k r L' → Q v H') : t { nx := fun _ H' => Q .non H', rt := Q } (L2.start N vs) H :=
  h _ H _ (rel_start o l) X ⟨fun e L' s H' g r ⟨L2, r2, a, b, c, d⟩ => z .non r2 L2 H' (g.wk a) c (r.led.wk a) (RsOk.wk (r := .dat .none) .non r.led a b) d, fun v r L' H' g l o ⟨L2, r2, a, b, c, d⟩ => z v r2 L2 H' (g.wk a) c (l.wk a) (o.wk l a b) d, fun _ _ _ _ _ _ f => f.elim, fun _ _ _ _ _ _ f => f.elim⟩
theorem rsAll_len {K : PySem.W.Frag} {L : Led} {H : Hp} {vs : List V} {rs : List Rs} (h : RsAll K L H vs rs) : vs.length = rs.length := Paired.length h
section
variable {P : Program} {w : World} {K : PySem.W.Frag} {mg : Str → Option Value} {base : Heap} {x qual : Str} {st : Stmt} {f : Addr} {fd : FuncData} {N ps : List Str} {k : Nat} {d : DSp}
/-- a def that raises nothing -/
theorem fn_z (F : Fun K x qual st f fd) (S : FnScope N ps (defScope st)) (len : ∀ rs L k x, d rs L k x → rs.length = ps.length)
    (body : ∀ (cdv : Value) (A : Around) (outer : List Env) (s : Shared) (H : Hp) (E : XK), Room k (A.deeper (envOfC qual (defScope st) s.heap.objs.size f cdv)) →
      ∃ t, PSs (cxOf CX0 P w K mg base N qual (defScope st) f cdv A outer s H E).nox (defBody st) t ∧ ∀ rs L q x, d rs L q x → HS (C0 K) t (ev0 N.length rs) L (dPost L q)) :
    FnOk P w K mg base CX0 (k + 1) f fd ps (lift K d) := by
  refine F.ok S (fun vs H Q E h => ?_) (fun cdv A outer s H vs Q E hr h => ?_)
  · obtain ⟨rs, L, q, x, o, _, hd, _⟩ := h
    rw [rsAll_len o]
    exact len rs L q x hd
  · obtain ⟨rs, L, q, x, o, l, hd, z, _⟩ := h
    obtain ⟨t, ht, hb⟩ := body cdv A outer s H E hr
    exact ⟨t, ht, run_body (hb rs L q x hd) o l exOk0 z⟩
/-- a def that may raise -/
theorem fn_zX (F : Fun K x qual st f fd) (S : FnScope N ps (defScope st)) (len : ∀ rs L k x, d rs L k x → rs.length = ps.length)
    (body : ∀ (cdv : Value) (A : Around) (outer : List Env) (s : Shared) (H : Hp) (E : XK), Room k (A.deeper (envOfC qual (defScope st) s.heap.objs.size f cdv)) →
      ∃ t, PSs (cxOf (L2.CX P w) P w K mg base N qual (defScope st) f cdv A outer s H E) (defBody st) t ∧
        ∀ rs L q x, d rs L q x → HS ⟨K, fun cls d _ H => E cls d H, fun c _ L' => Keeps L L' ∧ x c L'⟩ t (ev0 N.length rs) L (dPost L q)) :
    FnOk P w K mg base (L2.CX P w) (k + 1) f fd ps (lift K d) := by
  refine F.okX S (fun vs H Q E h => ?_) (fun cdv A outer s H vs Q E hr h => ?_)
  · obtain ⟨rs, L, q, x, o, _, hd, _⟩ := h
    rw [rsAll_len o]
    exact len rs L q x hd
  · obtain ⟨rs, L, q, x, o, l, hd, z, zx⟩ := h
    obtain ⟨t, ht, hb⟩ := body cdv A outer s H E hr
    exact ⟨t, ht, run_body (hb rs L q x hd) o l (fun c e s' L' H' g r f => zx c L' H' g f.1 r.led f.2) z⟩
end

/-- a def of the text as it stands: where, its row, how its arguments bind -/
structure DefAt (K : PySem.W.Frag) (mg : Str → Option Value) (x : Str) (st : Stmt) (ps : List Str) (f : Addr) (fd : FuncData) : Prop where
  g : mg x = some (.ref f)
  F : Fun K x x st f fd
  b : Binds K fd ps []
/-- a def that keeps its promise, as its callers want it -/
def Has (P : Program) (w : World) (K : PySem.W.Frag) (mg : Str → Option Value) (base : Heap) (k : Nat) (x : Str) (ps : List Str) (d : DSp) : Prop :=
  ∃ f fd, mg x = some (.ref f) ∧ PySem.W.keepIn K (.ref f) = true ∧ Binds K fd ps [] ∧ FnOk P w K mg base CX0 k f fd ps (lift K d)
def HasX (P : Program) (w : World) (K : PySem.W.Frag) (mg : Str → Option Value) (base : Heap) (k : Nat) (x : Str) (ps : List Str) (d : DSp) : Prop :=
  ∃ f fd, mg x = some (.ref f) ∧ PySem.W.keepIn K (.ref f) = true ∧ Binds K fd ps [] ∧ FnOk P w K mg base (L2.CX P w) k f fd ps (lift K d)
theorem ite_b {b : Bool} {A B : Prop} (h1 : b = true → A) (h2 : b = false → B) : if b = true then A else B := by
  cases b with
  | true => exact h1 rfl
  | false => exact h2 rfl
theorem ite_t {A B : Prop} (h : A) : if true = true then A else B := h
theorem ite_f {A B : Prop} (h : B) : if false = true then A else B := by
  rw [if_neg (by decide)]
  exact h
/-! more operators -/
def rGtZ : R2 := rI0 fun i j => .bl (decide (j < i))
theorem op_gtZ {X : Cx} : OpR X (compareOp .Gt) rGtZ := op_gt
def rLeZ : R2 := rI0 fun i j => .bl (decide (i ≤ j))
theorem op_leZ {X : Cx} : OpR X (compareOp .LtE) rLeZ := op_le
def rGeZ : R2 := rI0 fun i j => .bl (decide (j ≤ i))
theorem op_geZ {X : Cx} : OpR X (compareOp .GtE) rGeZ := op_ge
section
variable {C : Cz} {L : Led} {k : Rs → Led → Prop} {K : PySem.W.Frag}
theorem od_gt {i j : Int} (q : k (.dat (.bool (decide (j < i)))) L) : OD C rGtZ (.dat (.int i)) (.dat (.int j)) L k := od_cmp (g := fun a b => decide (b < a)) q
theorem od_le {i j : Int} (q : k (.dat (.bool (decide (i ≤ j)))) L) : OD C rLeZ (.dat (.int i)) (.dat (.int j)) L k := od_cmp (g := fun a b => decide (a ≤ b)) q
theorem od_ge {i j : Int} (q : k (.dat (.bool (decide (j ≤ i)))) L) : OD C rGeZ (.dat (.int i)) (.dat (.int j)) L k := od_cmp (g := fun a b => decide (b ≤ a)) q
theorem od_fdiv {i j : Int} (h : CDivW i j) (q : k (.dat (.int (i / j))) L) : OD C (rI CDivW fun i j => .int (i / j)) (.dat (.int i)) (.dat (.int j)) L k := od_intC (c := CDivW) (g := fun i j => i / j) h q
theorem od_pow {i j : Int} (h : CPow i j) (q : k (.dat (.int (i ^ j.toNat))) L) : OD C (rI CPow fun i j => .int (i ^ j.toNat)) (.dat (.int i)) (.dat (.int j)) L k := od_intC (c := CPow) (g := fun i j => i ^ j.toNat) h q
theorem od_repS {a : Str} {n : Int} (h : a.length ≤ 16 ∧ -(2 ^ 63) ≤ n ∧ n ≤ 1048576) (q : k (.dat (.str (Txt.mul a n))) L) : OD C (rMulY K) (.dat (.str a)) (.dat (.int n)) L k := od_or2 (od_val (fun v w H l x y => by
  cases x
  cases y
  exact ⟨.str _, .str _, fun Q f => ⟨a, n, rfl, rfl, h, f⟩⟩) q)
theorem od_mulY_int {i j : Int} (h : CMul i j) (q : k (.dat (.int (i * j))) L) : OD C (rMulY K) (.dat (.int i)) (.dat (.int j)) L k := od_or1 (od_mul_int h q)
theorem od_mulY_lst {ds : List PyData} {n : Int} (h : -(2 ^ 63) ≤ n ∧ n < 2 ^ 63 ∧ ds.length * n.toNat ≤ sizeLine) (q : k (.dat (.list (List.replicate n.toNat ds).flatten)) L) : OD C (rMulY K) (.dat (.list ds)) (.dat (.int n)) L k := od_or1 (od_mul_lst h q)
theorem cd_neg {i : Int} (q : k (.dat (.int (-i))) L) : CD C (fun vs H Q => ∃ v, vs = [v] ∧ rU (fun i => .int (-i)) v H Q) [.dat (.int i)] L k := cd_val (fun vs H l o => by
  obtain ⟨v, rfl, o1⟩ := rsAll_1 o
  cases o1
  exact ⟨.int (-i), .int _, fun Q f => ⟨_, rfl, i, rfl, f⟩⟩) q
theorem md_cntS {a : Addr} {ys : List Str} {z : Str} (m : (a, .lst (ys.map PyData.str)) ∈ L) (q : k (.dat (.int (ys.count z : Nat))) L) (hK : C.K = K := by rfl) : MD C (rCntS K) (.own a) [.dat (.str z)] L k := fun v vs H Q l o1 o2 f => by
  obtain ⟨rfl, ha⟩ := o1
  obtain ⟨w, rfl, o⟩ := rsAll_1 o2
  cases o
  obtain ⟨xs, ex, hx⟩ := l.isLst m
  have e2 := strs_of hx
  subst e2
  exact ⟨a, ys, z, rfl, rfl, SqL.of ex, f _ (.dat (.int (ys.count z : Nat))) L H (Grow.refl H L) (Keeps.refl L) l (.int _) q⟩
end
end Z

set_option Elab.async false
set_option linter.all false
set_option maxRecDepth 100000
set_option maxHeartbeats 2000000
/-! plain lemmas for walks -/
namespace Z
open PySem PySem.Spec PyProof.Rows L2
theorem atI_int {α : Type} {xs : List α} {i : Int} (h0 : 0 ≤ i) (h1 : i < xs.length) : ∃ d, atI xs i = some d ∧ d ∈ xs ∧ xs[i.toNat]? = some d := by
  have hi : i.toNat < xs.length := by omega
  have e : xs[i.toNat]? = some xs[i.toNat] := List.getElem?_eq_getElem hi
  have q := atI_nat e
  rw [Int.toNat_of_nonneg h0] at q
  exact ⟨_, q, List.getElem_mem hi, e⟩
theorem natD_of {i : Int} (h : 0 ≤ i) : PyData.int i = natD i.toNat := by
  unfold natD
  rw [Int.toNat_of_nonneg h]
theorem natD_app (ms : List Nat) {i : Int} (h : 0 ≤ i) : ms.map natD ++ [PyData.int i] = (ms ++ [i.toNat]).map natD := by
  rw [List.map_append, natD_of h]
  rfl
theorem plus_mem {L : Led} {p : Addr} {ds : List PyData} : (p, Mo.lst ds) ∈ plus L p ds := List.mem_append_right _ List.mem_cons_self
theorem plus_old {L : Led} {p a : Addr} {ds : List PyData} {m : Mo} (h : (a, m) ∈ L) : (a, m) ∈ plus L p ds := List.mem_append_left _ h
theorem rng_get {lo : Int} {n i : Nat} {d : PyData} (h : (rng lo n)[i]? = some d) : d = .int (lo + (i : Int)) ∧ i < n := by
  unfold rng at h
  rw [List.getElem?_map] at h
  by_cases hi : i < n
  · rw [List.getElem?_range hi] at h
    cases h
    exact ⟨rfl, hi⟩
  · rw [List.getElem?_eq_none (by rw [List.length_range]; omega)] at h
    cases h
theorem rng_len {lo : Int} {n : Nat} : (rng lo n).length = n := by
  unfold rng
  rw [List.length_map, List.length_range]
theorem rng_mem {lo : Int} {n : Nat} {d : PyData} (h : d ∈ rng lo n) : ∃ i : Nat, i < n ∧ d = .int (lo + (i : Int)) := by
  obtain ⟨i, hi, e⟩ := List.mem_map.mp h
  exact ⟨i, List.mem_range.mp hi, e.symm⟩
theorem map_get {α : Type} {f : α → PyData} {l : List α} {i : Nat} {d : PyData} (h : (l.map f)[i]? = some d) : ∃ x, l[i]? = some x ∧ d = f x := by
  rw [List.getElem?_map] at h
  cases e : l[i]? with
  | none =>
    rw [e] at h
    cases h
  | some x =>
    rw [e] at h
    cases h
    exact ⟨x, rfl, rfl⟩
theorem sz (n : Nat) (h : n < 16777216 := by omega) : n < sizeLine := by
  rw [sizeLine_eq]
  exact h
theorem szl (n : Nat) (h : n ≤ 16777216 := by omega) : n ≤ sizeLine := by
  rw [sizeLine_eq]
  exact h
end Z

set_option Elab.async false
set_option linter.all false
set_option maxRecDepth 100000
set_option maxHeartbeats 2000000
namespace Z
open PySem PySem.Spec PyProof.Rows L2
section
variable {C : Cz} {ε ε' : Ev} {L : Led} {k : Rs → Led → Prop} {wi wi1 : TI} {g g1 : TG} {tt tt1 : TT} {te : TE} {vs vs1 : List Nat} {K : PySem.W.Frag}
/-- [e for target in iter if ..], written on later -/
theorem cp_lcO (h : CI C wi ε L fun ds L1 => ds.length < sizeLine ∧ ∃ I : Nat → List PyData → Prop, I 0 [] ∧
      (∀ i d acc p, ds[i]? = some d → I i acc → p ∉ L1.ks → CG (C0 C.K) g (.dat d) (wipeE ε vs) (plus L1 p acc) fun ε2 L2 => L2 = plus L1 p acc ∧
        CT (C0 C.K) tt ε2 L2 fun b L3 => L3 = plus L1 p acc ∧ if b = true then CP (C0 C.K) te ε2 L3 fun r L4 => L4 = plus L1 p acc ∧ ∃ y, r = .dat y ∧ I (i + 1) (acc ++ [y]) else I (i + 1) acc) ∧
      ∀ acc, I ds.length acc → ∀ p, p ∉ L1.ks → k (.own p) (plus L1 p acc)) (ho : GOwn g vs) : CP C (tLc wi g tt te vs) ε L k := fun σ H Q R X z =>
  h σ H _ R X fun J ds L1 H1 g1 k1 R1 J1 ⟨hsz, I, i0, hs, hd⟩ D hD => by
    have hDn : D ∉ L1.ks := R1.led.fresh hD
    refine ⟨fun i m H' => m = ds.length - i ∧ i ≤ ds.length ∧ ∃ acc, acc.length ≤ i ∧ I i acc ∧ Grow H1 L1 H' (plus L1 D acc) ∧ LOk C.K (plus L1 D acc) H', ⟨_, rfl, Nat.zero_le _, [], Nat.le_refl _, i0, grow_own hD, R1.led.own hD .nil⟩, ?_⟩
    rintro i m H' ⟨rfl, hi, acc, hal, hI, g', l'⟩
    obtain ⟨js, jg⟩ := J1 _ H' g' l' i
    have RW : Rel C.K (plus L1 D acc) (wipeE ε vs) (wipe σ vs) H' := (rel_wipe R1 vs).grow g' keeps_own l'
    by_cases hl : i < ds.length
    · have hx : ds[i]? = some ds[i] := List.getElem?_eq_getElem hl
      obtain ⟨j1, j2⟩ := jg _ hx
      refine .inr ⟨j1, fun H2 => i + 1 ≤ ds.length ∧ ∃ acc2, acc2.length ≤ i + 1 ∧ I (i + 1) acc2 ∧ Grow H1 L1 H2 (plus L1 D acc2) ∧ LOk C.K (plus L1 D acc2) H2, fun H2 ⟨a, b⟩ => ⟨ds.length - (i + 1), by omega, rfl, a, b⟩, fun v H2 y => ?_⟩
      obtain ⟨g2, l2, rp⟩ := j2 v H2 y
      have key := hs i _ acc D hx hI hDn v (wipe σ vs) H2 (fun σ3 H3 => tt σ3 H3 fun b H4 => if b = true then te σ3 H4 fun y H5 => ∃ acc, H5 D = some (.lst acc) ∧ acc.length < sizeLine ∧ (i + 1 ≤ ds.length ∧ ∃ acc2, acc2.length ≤ i + 1 ∧ I (i + 1) acc2 ∧ Grow H1 L1 (upd H5 D (.lst (acc ++ [y]))) (plus L1 D acc2) ∧ LOk C.K (plus L1 D acc2) (upd H5 D (.lst (acc ++ [y])))) else (i + 1 ≤ ds.length ∧ ∃ acc2, acc2.length ≤ i + 1 ∧ I (i + 1) acc2 ∧ Grow H1 L1 H4 (plus L1 D acc2) ∧ LOk C.K (plus L1 D acc2) H4)) (RW.grow g2 (Keeps.refl _) l2) rp fun ε3 L3 σ3 H3 g3 k3 R3 q3 => ?_
      · have q := ho v (wipe σ vs) H2 _ key
        rw [wipe_wipe] at q
        exact q
      obtain ⟨e3, q3⟩ := q3
      subst e3
      refine q3 σ3 H3 _ R3 exOk0 fun b L4 H4 g4 k4 R4 q4 => ?_
      obtain ⟨e4, q4⟩ := q4
      subst e4
      have gg := g'.trans (g2.trans (g3.trans g4))
      cases b with
      | false =>
        rw [if_neg (by decide)] at q4 ⊢
        exact ⟨hl, acc, Nat.le_succ_of_le hal, q4, gg, R4.led⟩
      | true =>
        rw [if_pos rfl] at q4 ⊢
        refine q4 σ3 H4 _ R4 exOk0 fun w r L5 H5 g5 k5 R5 o5 q5 => ?_
        obtain ⟨e5, yd, er, q5⟩ := q5
        subst e5 er
        obtain ⟨xs, ex, hxs⟩ := R5.led.isLst (List.mem_append_right _ List.mem_cons_self)
        refine ⟨xs, ex, by rw [rpAll_len hxs]; omega, hl, acc ++ [yd], by rw [List.length_append]; exact Nat.succ_le_succ hal, q5, (gg.trans g5).trans grow_app, R5.led.app ex o5⟩
    · have e : i = ds.length := by omega
      subst e
      exact .inl ⟨js rfl, z (.ref D) (.own D) (plus L1 D acc) H' (g1.trans g') (k1.trans keeps_own) (R1.grow g' keeps_own l') ⟨rfl, Led.key plus_mem⟩ (hd acc hI D hDn)⟩
theorem cp_lcFO (f : PyData → Option PyData) (h : CI C wi ε L fun ds L1 => ds.length < sizeLine ∧
      (∀ d ∈ ds, ∀ acc p, p ∉ L1.ks → CG (C0 C.K) g (.dat d) (wipeE ε vs) (plus L1 p acc) fun ε2 L2 => L2 = plus L1 p acc ∧
        CT (C0 C.K) tt ε2 L2 fun b L3 => L3 = plus L1 p acc ∧ if b = true then CP (C0 C.K) te ε2 L3 fun r L4 => L4 = plus L1 p acc ∧ ∃ y, r = .dat y ∧ f d = some y else f d = none) ∧
      ∀ p, p ∉ L1.ks → k (.own p) (plus L1 p (ds.filterMap f))) (ho : GOwn g vs) : CP C (tLc wi g tt te vs) ε L k := by
  refine cp_lcO ?_ ho
  refine fun σ H R Rl X z => h σ H R Rl X fun J ds L' H' g1 k1 R1 J1 ⟨a, b, c⟩ => z J ds L' H' g1 k1 R1 J1 ⟨a, fun i acc => acc = (ds.take i).filterMap f, rfl, fun i d acc p hd hI hp => ?_, fun acc hI => ?_⟩
  · have hm : d ∈ ds := List.mem_of_getElem? hd
    have ht : ds.take (i + 1) = ds.take i ++ [d] := by rw [List.take_add_one, hd] <;> rfl
    intro v σ2 H2 Q2 R2 o2 z2
    refine b d hm acc p hp v σ2 H2 Q2 R2 o2 fun ε3 L3 σ3 H3 g3 k3 R3 ⟨e3, q3⟩ => z2 ε3 L3 σ3 H3 g3 k3 R3 ⟨e3, CT.mono q3 fun bb L4 ⟨e4, q4⟩ => ⟨e4, ?_⟩⟩
    cases bb with
    | true =>
      rw [if_pos rfl] at q4 ⊢
      exact CP.mono q4 fun r L5 ⟨e5, y, er, ey⟩ => ⟨e5, y, er, (by show acc ++ [y] = (ds.take (i + 1)).filterMap f; rw [ht, List.filterMap_append, hI, List.filterMap_cons, ey]; rfl)⟩
    | false =>
      rw [if_neg (by decide)] at q4 ⊢
      show acc = (ds.take (i + 1)).filterMap f
      rw [ht, List.filterMap_append, hI, List.filterMap_cons, q4]
      show _ = _ ++ []
      rw [List.append_nil]
  · have e : acc = (ds.take ds.length).filterMap f := hI
    rw [e, List.take_length]
    exact c
/-! an owned list is looked at as data -/
theorem rel_take {σ : L2.St} {H H1 : Hp} {p : Addr} {ds : List PyData} (R : Rel K (plus L p ds) ε σ H) (hp : p ∉ L.ks) (hL : ∀ q ∈ L, q.2 = Mo.drw) (g : Grow H L H1 L) (l1 : LOk K L H1) : Grow H (plus L p ds) H1 (plus L p ds) ∧ Rel K (plus L p ds) ε σ H1 := by
  have G : Grow H (plus L p ds) H1 (plus L p ds) := ⟨fun a o e n => g.old a o e fun z => n (keeps_own a z), fun a ha => .inl ha⟩
  refine ⟨G, R.grow G (Keeps.refl _) ⟨R.led.nd, fun q hq => ?_⟩⟩
  rcases List.mem_append.mp hq with h | h
  · have o := l1.at_ q h
    have hd := hL q h
    obtain ⟨a, m⟩ := q
    subst hd
    exact o
  · have e := List.mem_singleton.mp h
    subst e
    obtain ⟨ys, e3, e4⟩ := R.led.isLst (plus_mem (L := L) (p := p) (ds := ds))
    exact ⟨ys, g.old p _ e3 hp, rpAll_mono G.ext e4⟩
theorem ct_view {kb : Bool → Led → Prop} {p : Addr} {ds : List PyData} (hp : p ∉ L.ks) (hL : ∀ q ∈ L, q.2 = Mo.drw) (e : EvWk (plus L p ds) L ε ε') (h : CT (C0 C.K) tt ε' L fun b L1 => L1 = L ∧ kb b (plus L p ds)) : CT C tt ε (plus L p ds) kb := fun σ H Q R X z => by
  refine h σ H Q (R.wk wk_plus e) exOk0 fun b L1 H1 g1 k1 R1 q => ?_
  obtain ⟨rfl, q⟩ := q
  obtain ⟨G, R2⟩ := rel_take R hp hL g1 R1.led
  exact z b _ H1 G (Keeps.refl _) R2 q
/-- and in a call that answers yes or no -/
theorem cp_view {p : Addr} {ds : List PyData} (hp : p ∉ L.ks) (hL : ∀ q ∈ L, q.2 = Mo.drw) (e : EvWk (plus L p ds) L ε ε') (h : CP (C0 C.K) te ε' L fun r L1 => L1 = L ∧ ∃ b : Bool, r = .dat (.bool b) ∧ k (.dat (.bool b)) (plus L p ds)) : CP C te ε (plus L p ds) k := fun σ H Q R X z => by
  refine h σ H Q (R.wk wk_plus e) exOk0 fun v r L1 H1 g1 k1 R1 o1 q => ?_
  obtain ⟨rfl, b, rfl, q⟩ := q
  obtain ⟨G, R2⟩ := rel_take R hp hL g1 R1.led
  cases o1
  exact z _ (.dat (.bool b)) _ H1 G (Keeps.refl _) R2 (.bl b) q
/-- a written list is handed out -/
theorem rt_ownK {k : Rs → Led → Prop} {p : Addr} {ds : List PyData} (h : k (.own p) (plus L p ds)) : rtOk L k (.own p) (plus L p ds) := ⟨_, _, wk_refl, .own (Led.key plus_mem), keeps_own, h⟩
theorem rt_ownD {k : Rs → Led → Prop} {p p2 : Addr} {ds : List PyData} {ns : List Nat} (h : k (.own p2) (L ++ [(p2, .drw)])) : rtOk L k (.own p2) (plus (plus L p ds) p2 (ns.map natD)) := by
  refine ⟨_, _, ⟨plus L p2 (ns.map natD), ?_, ?_⟩, .own (Led.key (List.mem_append_right _ List.mem_cons_self)), keeps_own, h⟩
  · exact List.Sublist.append (List.sublist_append_left _ _) (List.Sublist.refl _)
  · have key : ∀ L : Led, Paired (fun p q => q.1 = p.1 ∧ MoLe p.2 q.2) (plus L p2 (ns.map natD)) (L ++ [(p2, .drw)]) := by
      intro L
      induction L with
      | nil => exact .cons ⟨rfl, .drw ns⟩ .nil
      | cons q r ih => exact .cons ⟨rfl, .same _⟩ ih
    exact key L
/-! a text's signs -/
theorem sgn_len (c : Nat) : (⟨#[c]⟩ : Str).length = 1 := rfl
theorem str_of (z : Str) : (⟨z.cps.toList.toArray⟩ : Str) = z := rfl
def ofL (l : List Nat) : Str := ⟨l.toArray⟩
theorem ofL_app (a : List Nat) (c : Nat) : ofL a ++ ofL [c] = ofL (a ++ [c]) := by
  show (⟨a.toArray ++ #[c]⟩ : Str) = ⟨(a ++ [c]).toArray⟩
  congr 1
  simp
theorem ofL_len (a : List Nat) : (ofL a).length = a.length := rfl
end
end Z

set_option Elab.async false
set_option linter.all false
set_option maxRecDepth 100000
set_option maxHeartbeats 2000000
namespace Z
open PySem PySem.Spec PyProof.Rows L2
section
variable {C : Cz} {ε ε' : Ev} {L : Led} {k : Rs → Led → Prop} {wi wi1 : TI} {g g1 : TG} {tt tt1 : TT} {te : TE} {vs vs1 : List Nat} {K : PySem.W.Frag}
/-- over a source that is a map -/
theorem cp_lcM (α : Type) (h : CI C wi ε L fun ds L1 => ds.length < sizeLine ∧ ∃ (l : List α) (g0 : α → PyData) (f : α → Option PyData), ds = l.map g0 ∧
      (∀ x ∈ l, ∀ acc p, p ∉ L1.ks → CG (C0 C.K) g (.dat (g0 x)) (wipeE ε vs) (plus L1 p acc) fun ε2 L2 => L2 = plus L1 p acc ∧
        CT (C0 C.K) tt ε2 L2 fun b L3 => L3 = plus L1 p acc ∧ if b = true then CP (C0 C.K) te ε2 L3 fun r L4 => L4 = plus L1 p acc ∧ ∃ y, r = .dat y ∧ f x = some y else f x = none) ∧
      k (.dat (.list (l.filterMap f))) L1) (ho : GOwn g vs) : CP C (tLc wi g tt te vs) ε L k := by
  refine cp_lc ?_ ho
  refine fun σ H R Rl X z => h σ H R Rl X fun J ds L' H' g1 k1 R1 J1 ⟨a, l, g0, f, el, b, c⟩ => z J ds L' H' g1 k1 R1 J1 ⟨a, fun i acc => acc = (l.take i).filterMap f, rfl, fun i d acc p hd hI hp => ?_, fun acc hI => ?_⟩
  · subst el
    obtain ⟨x, hx, rfl⟩ := map_get hd
    have hm : x ∈ l := List.mem_of_getElem? hx
    have ht : l.take (i + 1) = l.take i ++ [x] := by rw [List.take_add_one, hx] <;> rfl
    intro v σ2 H2 Q2 R2 o2 z2
    refine b x hm acc p hp v σ2 H2 Q2 R2 o2 fun ε3 L3 σ3 H3 g3 k3 R3 ⟨e3, q3⟩ => z2 ε3 L3 σ3 H3 g3 k3 R3 ⟨e3, CT.mono q3 fun bb L4 ⟨e4, q4⟩ => ⟨e4, ?_⟩⟩
    cases bb with
    | true =>
      rw [if_pos rfl] at q4 ⊢
      exact CP.mono q4 fun r L5 ⟨e5, y, er, ey⟩ => ⟨e5, y, er, (by show acc ++ [y] = (l.take (i + 1)).filterMap f; rw [ht, List.filterMap_append, hI, List.filterMap_cons, ey]; rfl)⟩
    | false =>
      rw [if_neg (by decide)] at q4 ⊢
      show acc = (l.take (i + 1)).filterMap f
      rw [ht, List.filterMap_append, hI, List.filterMap_cons, q4]
      show _ = _ ++ []
      rw [List.append_nil]
  · subst el
    have e : acc = (l.take (l.map g0).length).filterMap f := hI
    rw [e, List.length_map, List.take_length]
    exact c
theorem cp_lcMO (α : Type) (h : CI C wi ε L fun ds L1 => ds.length < sizeLine ∧ ∃ (l : List α) (g0 : α → PyData) (f : α → Option PyData), ds = l.map g0 ∧
      (∀ x ∈ l, ∀ acc p, p ∉ L1.ks → CG (C0 C.K) g (.dat (g0 x)) (wipeE ε vs) (plus L1 p acc) fun ε2 L2 => L2 = plus L1 p acc ∧
        CT (C0 C.K) tt ε2 L2 fun b L3 => L3 = plus L1 p acc ∧ if b = true then CP (C0 C.K) te ε2 L3 fun r L4 => L4 = plus L1 p acc ∧ ∃ y, r = .dat y ∧ f x = some y else f x = none) ∧
      ∀ p, p ∉ L1.ks → k (.own p) (plus L1 p (l.filterMap f))) (ho : GOwn g vs) : CP C (tLc wi g tt te vs) ε L k := by
  refine cp_lcO ?_ ho
  refine fun σ H R Rl X z => h σ H R Rl X fun J ds L' H' g1 k1 R1 J1 ⟨a, l, g0, f, el, b, c⟩ => z J ds L' H' g1 k1 R1 J1 ⟨a, fun i acc => acc = (l.take i).filterMap f, rfl, fun i d acc p hd hI hp => ?_, fun acc hI => ?_⟩
  · subst el
    obtain ⟨x, hx, rfl⟩ := map_get hd
    have hm : x ∈ l := List.mem_of_getElem? hx
    have ht : l.take (i + 1) = l.take i ++ [x] := by rw [List.take_add_one, hx] <;> rfl
    intro v σ2 H2 Q2 R2 o2 z2
    refine b x hm acc p hp v σ2 H2 Q2 R2 o2 fun ε3 L3 σ3 H3 g3 k3 R3 ⟨e3, q3⟩ => z2 ε3 L3 σ3 H3 g3 k3 R3 ⟨e3, CT.mono q3 fun bb L4 ⟨e4, q4⟩ => ⟨e4, ?_⟩⟩
    cases bb with
    | true =>
      rw [if_pos rfl] at q4 ⊢
      exact CP.mono q4 fun r L5 ⟨e5, y, er, ey⟩ => ⟨e5, y, er, (by show acc ++ [y] = (l.take (i + 1)).filterMap f; rw [ht, List.filterMap_append, hI, List.filterMap_cons, ey]; rfl)⟩
    | false =>
      rw [if_neg (by decide)] at q4 ⊢
      show acc = (l.take (i + 1)).filterMap f
      rw [ht, List.filterMap_append, hI, List.filterMap_cons, q4]
      show _ = _ ++ []
      rw [List.append_nil]
  · subst el
    have e : acc = (l.take (l.map g0).length).filterMap f := hI
    rw [e, List.length_map, List.take_length]
    exact c
theorem ct_yes {kb : Bool → Led → Prop} (q : kb true L) : CT C tYes ε L kb := fun σ H Q R X z => z true L H (Grow.refl H L) (Keeps.refl L) R q
end
/-- both ways lead on from J -/
theorem hs_join {C : Cz} {ε : Ev} {L : Led} {t u : TS} {P : Post} {b : Bool} (J : Ev → Led → Prop) (h : if b = true then HS C t ε L { P with nx := J } else HS C u ε L { P with nx := J }) (h2 : ∀ e l, J e l → P.nx e l) : if b = true then HS C t ε L P else HS C u ε L P := by
  cases b with
  | true =>
    rw [if_pos rfl] at h ⊢
    exact h.mono h2 (fun _ _ z => z) (fun _ _ z => z) fun _ _ z => z
  | false =>
    rw [if_neg (by decide)] at h ⊢
    exact h.mono h2 (fun _ _ z => z) (fun _ _ z => z) fun _ _ z => z
theorem fm_bool {α : Type} (g : α → Bool) : ∀ l : List α, l.filterMap (fun c => some (PyData.bool (g c))) = (l.map g).map PyData.bool
  | [] => rfl
  | a :: r => by
    rw [List.filterMap_cons, List.map_cons, List.map_cons, ← fm_bool g r]
theorem fm_int {α : Type} (g : α → Int) : ∀ l : List α, l.filterMap (fun c => some (PyData.int (g c))) = (l.map g).map PyData.int
  | [] => rfl
  | a :: r => by
    rw [List.filterMap_cons, List.map_cons, List.map_cons, ← fm_int g r]
theorem fm_str {α : Type} (g : α → Str) : ∀ l : List α, l.filterMap (fun c => some (PyData.str (g c))) = (l.map g).map PyData.str
  | [] => rfl
  | a :: r => by
    rw [List.filterMap_cons, List.map_cons, List.map_cons, ← fm_str g r]
/-- those that pass -/
theorem fm_if {α β : Type} (p : α → Bool) (g : α → β) : ∀ l : List α, l.filterMap (fun c => if p c = true then some (g c) else none) = (l.filter p).map g
  | [] => rfl
  | a :: r => by
    rw [List.filterMap_cons, List.filter_cons]
    cases h : p a with
    | true =>
      rw [if_pos rfl, if_pos rfl, List.map_cons, ← fm_if p g r]
    | false =>
      rw [if_neg (by decide), if_neg (by decide), fm_if p g r]
/-! the same rules, where the place's constants are named -/
section
variable {X : Cx} {K : PySem.W.Frag}
theorem opK {o : Value → Value → Sem Value} {r : PySem.W.Frag → R2} (h : OpR X o (r X.K)) (e : X.K = K) : OpR X o (r K) := e ▸ h
theorem ixK {r : PySem.W.Frag → R2} (h : IxR X (r X.K)) (e : X.K = K) : IxR X (r K) := e ▸ h
theorem callK {f : Value} {r : PySem.W.Frag → List V → Hp → VK → Prop} (h : CallR X f (r X.K)) (e : X.K = K) : CallR X f (r K) := e ▸ h
theorem mtK {m : String} {r : PySem.W.Frag → V → List V → Hp → VK → Prop} (h : MtR X m (r X.K)) (e : X.K = K) : MtR X m (r K) := e ▸ h
theorem pg_tupK {es : List Expr} {k : Nat} {t : TGs} {n : Nat} {pos : Pos} (e : X.K = K) (hc : X.calm = true) (h : PGs X es t)
    (hn : (assignEach es X.env).length = n := by rfl) (hst : (assignEach es X.env).findIdx? (·.1) = none := by rfl) : PG X (.Tuple es k pos) (gTup K n t) := by
  subst e
  exact pg_tup hc h hn hst
theorem pi_sqK {tg e : Expr} {te : TE} (ek : X.K = K) (he : PE X e te) : PI X tg e (iSq K te) := by
  subst ek
  exact pi_sq he
theorem pi_enK {e : Expr} {ta : TA} {p pos tpos : Pos} {elts : List Expr} {kk : Nat} (ek : X.K = K) (hg : Gl X "enumerate") (hm : X.mg "enumerate" = none) (ha : PA X [e] ta) (hs : starEach [e] X.env = [(false, eval e X.env)] := by rfl) :
    PI X (.Tuple elts kk tpos) (.Call (.Name "enumerate" p) [e] [] pos) (iEn K ta) := by
  subst ek
  exact pi_en hg hm ha hs
theorem pi_zpK {e e2 : Expr} {ta : TA} {p pos tpos : Pos} {elts : List Expr} {kk : Nat} (ek : X.K = K) (hg : Gl X "zip") (hm : X.mg "zip" = none) (ha : PA X [e, e2] ta)
    (hs : starEach [e, e2] X.env = (false, eval e X.env) :: starEach [e2] X.env := by rfl) (hpl : (backTo pos (starEach [e2] X.env)).any (·.1) = false := by rfl) :
    PI X (.Tuple elts kk tpos) (.Call (.Name "zip" p) [e, e2] [] pos) (iZp K ta) := by
  subst ek
  exact pi_zp hg hm ha hs hpl
theorem pe_bm0K {T : String} {name : Str} {id : String} {r : V → List V → Hp → VK → Prop} {o : Expr} {tO : TE} {apos cpos : Pos} (ek : X.K = K) (pa : PlainAttrs T) (slot : Slot T name id) (hty : typeOf (.builtin id) = pure (.type "method_descriptor")) (hm : MtR X id r) (ho : PE X o tO)
    (hbase : attributeBase o name X.env (eval o X.env) = eval o X.env := by rfl) (hline : (apos.endLine == cpos.line) = true := by rfl) : PE X (.Call (.Attribute o name apos) [] [] cpos) (tBM0 K T r tO) := by
  subst ek
  exact pe_bm0 pa slot hty hm ho hbase hline
theorem pe_bmK {T : String} {name : Str} {id : String} {r : V → List V → Hp → VK → Prop} {o e : Expr} {es : List Expr} {tO : TE} {t : TA} {apos cpos : Pos} (ek : X.K = K) (pa : PlainAttrs T) (slot : Slot T name id) (hty : typeOf (.builtin id) = pure (.type "method_descriptor")) (hm : MtR X id r) (ho : PE X o tO) (ha : PA X (e :: es) t)
    (hbase : attributeBase o name X.env (eval o X.env) = eval o X.env := by rfl)
    (hfew : ((backTo cpos (starEach (e :: es) X.env)).all (fun x => !x.1) && (backToKw cpos (keywordEach [] X.env)).all (fun x => x.1.isSome)
      && decide ((e :: es).length + ([] : List Keyword).length + (if ([] : List Keyword).isEmpty then 0 else 1) < 30)) = true := by rfl)
    (hline : (apos.endLine == cpos.line) = true := by rfl) (hs : starEach (e :: es) X.env = (false, eval e X.env) :: starEach es X.env := by rfl) (hplain : (backTo cpos (starEach es X.env)).any (·.1) = false := by rfl) :
    PE X (.Call (.Attribute o name apos) (e :: es) [] cpos) (tBM K T r tO t) := by
  subst ek
  exact pe_bm pa slot hty hm ho ha hbase hfew hline hs hplain
end
end Z

set_option Elab.async false
set_option linter.all false
set_option maxRecDepth 100000
set_option maxHeartbeats 2000000
namespace Z
open PySem PySem.Spec PyProof.Rows L2
/-- a class of errors of the text's own, with no __init__ of its own -/
structure ErrAt (K : PySem.W.Frag) (mg : Str → Option Value) (x : Str) (C : Addr) : Prop where
  g : mg x = some (.ref C)
  x : PySem.W.excIn K C [.type "ValueError", .type "Exception", .type "BaseException", .type "object"] "ValueError.__new__" = true
  k : PySem.W.keepIn K (.ref C) = true
  s1 : PySem.W.subIn K (.ref C) (.type "BaseException") = some true
  s2 : PySem.W.typeIn K (.ref C) = some (.type "type")
/-- what an error of the class D answers to isinstance, class by class -/
def FlagsAt (K : PySem.W.Frag) (D : Addr) (cs : List Addr) (bs : List Bool) : Prop := ExcC K D ∧ Paired (fun c b => PySem.W.kitOne K (.ref D) (.ref c) = some b) cs bs
/-- a def that keeps its promise where an error is caught -/
def HasQ (P : Program) (w : World) (K : PySem.W.Frag) (mg : Str → Option Value) (base : Heap) (k : Nat) (x : Str) (ps : List Str) (sp : Addr → Addr → Sp) : Prop :=
  ∃ f fd, mg x = some (.ref f) ∧ PySem.W.keepIn K (.ref f) = true ∧ Binds K fd ps [] ∧ FnQ P w K mg base k f fd ps sp
/-- what _law_same takes: n deep -/
def okD : Nat → PyData → Prop
  | _, .dict _ => False
  | 0, .list _ => False
  | 0, .tuple _ => False
  | n + 1, .list ds => ds.length ≤ 1000000 ∧ ∀ d ∈ ds, okD n d
  | n + 1, .tuple ds => ds.length ≤ 1000000 ∧ ∀ d ∈ ds, okD n d
  | _, _ => True
theorem okD_str : ∀ (n : Nat) (x : Str), okD n (.str x)
  | 0, _ => trivial
  | _ + 1, _ => trivial
theorem okD_int : ∀ (n : Nat) (x : Int), okD n (.int x)
  | 0, _ => trivial
  | _ + 1, _ => trivial
theorem okD_bool : ∀ (n : Nat) (x : Bool), okD n (.bool x)
  | 0, _ => trivial
  | _ + 1, _ => trivial
theorem okD_none : ∀ (n : Nat), okD n .none
  | 0 => trivial
  | _ + 1 => trivial
def dSame : Nat → DSp
  | 0 => fun _ _ _ _ => False
  | n + 1 => fun rs L k _ => ∃ d, rs = [.dat d, .dat d] ∧ okD n d ∧ k (.dat (.bool true)) L
section
variable {C : Cz} {ε : Ev} {L : Led} {k : Rs → Led → Prop} {K : PySem.W.Frag}
theorem cp_join {b : Bool} {ta tb : TE} (J : Rs → Led → Prop) (h : if b = true then CP C ta ε L J else CP C tb ε L J) (h2 : ∀ r l, J r l → k r l) : if b = true then CP C ta ε L k else CP C tb ε L k := by
  cases b with
  | true =>
    rw [if_pos rfl] at h ⊢
    exact h.mono h2
  | false =>
    rw [if_neg (by decide)] at h ⊢
    exact h.mono h2
theorem ct_join {b : Bool} {tt : TT} {kb : Bool → Led → Prop} (J : Bool → Led → Prop) (h : if b = true then CT C tt ε L J else J false L) (h2 : ∀ b l, J b l → kb b l) : if b = true then CT C tt ε L kb else kb false L := by
  cases b with
  | true =>
    rw [if_pos rfl] at h ⊢
    exact h.mono h2
  | false =>
    rw [if_neg (by decide)] at h ⊢
    exact h2 _ _ h
theorem od_same (d : PyData) (h : ∀ ds, d ≠ .list ds) (h2 : ∀ ds, d ≠ .tuple ds) (h3 : ∀ ds, d ≠ .dict ds) (h4 : d ≠ .none) (q : k (.dat (.bool true)) L) : OD C (rEqZ K) (.dat d) (.dat d) L k := by
  cases d with
  | none => exact absurd rfl h4
  | bool b => exact od_eq_bool (by rw [beq_self_eq_true]; exact q)
  | int b => exact od_eq_int (by rw [beq_self_eq_true]; exact q)
  | str b => exact od_eq_str (by rw [beq_self_eq_true]; exact q)
  | list b => exact absurd rfl (h _)
  | tuple b => exact absurd rfl (h2 _)
  | dict b => exact absurd rfl (h3 _)
end
inductive OW (L' M2 : Led) : Option Rs → Option Rs → Prop
  | no (o : Option Rs) : OW L' M2 o none
  | mk {r r2 : Rs} (h : RsWk L' M2 r r2) : OW L' M2 (some r) (some r2)
theorem evwk_mk {L' M2 : Led} : ∀ {ε ε2 : Ev}, Paired (OW L' M2) ε ε2 → EvWk L' M2 ε ε2
  | _, _, .nil => ⟨rfl, fun i r2 h => by simp at h⟩
  | _, _, .cons (a := o) (b := o2) h t => by
    obtain ⟨e1, e2⟩ := evwk_mk t
    refine ⟨by rw [List.length_cons, List.length_cons, e1], fun i r2 hr => ?_⟩
    cases i with
    | zero =>
      have hr : o2 = some r2 := by simpa using hr
      subst hr
      cases h with
      | mk h => exact ⟨_, rfl, h⟩
    | succ i =>
      obtain ⟨r, a, b⟩ := e2 i r2 (by simpa using hr)
      exact ⟨r, by simpa using a, b⟩
theorem EvWk.set {L' M2 : Led} {ε ε2 : Ev} (h : EvWk L' M2 ε ε2) (i : Nat) (d : PyData) : EvWk L' M2 (ε.set i (some (.dat d))) (ε2.set i (some (.dat d))) := by
  refine ⟨by rw [List.length_set, List.length_set, h.1], fun j r2 hr => ?_⟩
  by_cases e : i = j
  · subst e
    by_cases hl : i < ε2.length
    · rw [List.getElem?_set_self hl] at hr
      cases hr
      exact ⟨_, by rw [List.getElem?_set_self (by rw [h.1]; exact hl)], .dat d⟩
    · rw [List.getElem?_eq_none (by rw [List.length_set]; omega)] at hr
      cases hr
  · rw [List.getElem?_set_ne e] at hr
    obtain ⟨r, a, b⟩ := h.2 j r2 hr
    exact ⟨r, by rw [List.getElem?_set_ne e]; exact a, b⟩
theorem roomQ {j k : Nat} {A : Around} {v : Option Value} (r : Room k A) (h : j ≤ k) : L2H.RoomH j (A.mark v) := ⟨(r.mono h).dp, (r.mono h).un⟩
end Z

set_option Elab.async false
set_option linter.all false
set_option maxRecDepth 100000
set_option maxHeartbeats 2000000
namespace Z
open PySem PySem.Spec PyProof.Rows L2
/-! the head's facts, as the walks want them -/
section
variable {K : PySem.W.Frag} {h : Heap} {mg : Str → Option Value}
theorem fun_of {x qual : Str} {st : Stmt} {f : Addr} {fd : FuncData} (F : FunD K x qual (defArgs st) (defBody st) (defScope st) [] [] f fd) : Fun K x qual st f fd := by
  obtain ⟨oc, od, dV, kV, doc, pm, an, cdv, ct, osl, e, lk, hcd, hd, _⟩ := F.ex
  rcases hd with ⟨_, e2⟩ | ⟨e2, _⟩
  · subst e2
    exact ⟨⟨oc, od, kV, doc, pm, an, cdv, ct, osl, e, lk, hcd⟩, F.kp⟩
  · exact absurd rfl e2
def excB (K : PySem.W.Frag) (C : Addr) : Bool :=
  He.eqO (PySem.W.findIn K (.ref C) "__getattribute__") (some (some (.builtin "BaseException.__getattribute__"))) && (He.eqO (PySem.W.findIn K (.ref C) "__getattr__") (some none) && (decide (PySem.W.subIn K (.ref C) (.type "BaseException") = some true) &&
  (PySem.W.hasDictIn K C && (He.eqO (PySem.W.findIn K (.ref C) "__class__") (some (some (.builtin "object.__class__"))) && (He.eqO (PySem.W.specialIn K (.builtin "object.__class__") "__get__") (some (some (.builtin "getset_descriptor.__get__"))) &&
  (decide (PySem.W.takesIn K (.builtin "object.__class__") = some true) && decide (PySem.W.mroIn K C (.type "object") = some true)))))))
theorem excB_ok {C : Addr} (c : excB K C = true) : ExcC K C := by
  obtain ⟨c1, c⟩ := He.ba c
  obtain ⟨c2, c⟩ := He.ba c
  obtain ⟨c3, c⟩ := He.ba c
  obtain ⟨c4, c⟩ := He.ba c
  obtain ⟨c5, c⟩ := He.ba c
  obtain ⟨c6, c⟩ := He.ba c
  obtain ⟨c7, c8⟩ := He.ba c
  exact ⟨He.eqO_ok c1, He.eqO_ok c2, of_decide_eq_true c3, c4, He.eqO_ok c5, He.eqO_ok c6, of_decide_eq_true c7, of_decide_eq_true c8⟩
def flagsB (K : PySem.W.Frag) (x : Str) (cs : List (Str × Bool)) : Bool := excB K (He.ga K x) && cs.all fun p => decide (PySem.W.kitOne K (.ref (He.ga K x)) (.ref (He.ga K p.1)) = some p.2)
theorem flags_ok {x : Str} {cs : List (Str × Bool)} (c : flagsB K x cs = true) : FlagsAt K (He.ga K x) (cs.map fun p => He.ga K p.1) (cs.map Prod.snd) := by
  obtain ⟨c1, c2⟩ := He.ba c
  refine ⟨excB_ok c1, ?_⟩
  clear c c1
  induction cs with
  | nil => exact .nil
  | cons p r ih =>
    rw [List.all_cons] at c2
    obtain ⟨c3, c4⟩ := He.ba c2
    exact .cons (of_decide_eq_true c3) (ih c4)
theorem err_ok (X : K.In h) (G : h.Ns mainGlobals mg) {x : Str} (c : (He.Fa.exc x).ok K = true) (g : (He.Fa.glo x).ok K = true) : ErrAt K mg x (He.ga K x) := by
  obtain ⟨c1, c2, c3, c4⟩ := He.exc_ok c
  exact ⟨He.glo_ok X G g, c1, c2, c3, c4⟩
end
theorem law_start {K : PySem.W.Frag} (d : DSp) {H : Hp} {a : Addr} {ns : List Int} (hd : ∀ (k : Rs → Led → Prop) (x : Addr → Led → Prop), k (.dat (.bool true)) [] → d [.scr ns] [] k x) (hS : SqL K H a (ns.map V.int)) : lift K d [.ref a] H (fun v _ => v = .bl true) fun _ _ _ => False := by
  refine ⟨[.scr ns], [], fun r _ => r = .dat (.bool true), fun _ _ => False, .cons ⟨a, rfl, ?_⟩ .nil, ⟨List.nodup_nil, fun _ h => nomatch h⟩, hd _ _ rfl, fun v r L' H' _ _ _ o e => ?_, fun _ _ _ _ _ _ f => f⟩
  · have e : hid [] H = H := funext fun b => hid_out (fun h => nomatch h)
    rw [e]
    exact hS
  · subst e
    cases o
    rfl
end Z

set_option Elab.async false
set_option linter.all false
set_option maxRecDepth 100000
set_option maxHeartbeats 2000000
/-! tuples: slices, sums, greatest items, stars; two and three stores at once -/
namespace PySem
section
variable {prog : Program} {w : World} {A : Around} {E : Value → Shared → Prop} {s : Shared} {l : Addr} {xs : Array (Int × Tok)}
theorem zt_iter {Q : Value → Shared → Prop} (hl : s.heap.IsTuple l (intItems xs))
    (h : ∀ s₂ : Shared, s₂ = { s with heap := s.heap.push { cls := .type "tuple_iterator", data := .fields #[.ref l, .int 0 0] } } → (s₂.heap.IsTupleIter s.heap.objs.size l 0 ∧ s₂.heap.IsTuple l (intItems xs)) →
      (∀ b ∈ [s.heap.objs.size, l], b < s₂.heap.objs.size) → l ≠ s.heap.objs.size → Q (.ref s.heap.objs.size) s₂) : wpAny (model prog w) A (pyIter (.ref l)) Q E s := by
  have old : l < s.heap.objs.size := by
    obtain ⟨_, e, _⟩ := hl
    exact Heap.lt_size e
  refine wpAny_pyIter_tuple hl (h _ rfl ⟨⟨_, Heap.get?_push_size _ rfl, rfl, rfl⟩, hl.push _⟩ (fun b hb => ?_) (Nat.ne_of_lt old))
  have sz : (s.heap.push { cls := .type "tuple_iterator", data := .fields #[.ref l, .int 0 0] }).objs.size = s.heap.objs.size + 1 := Heap.size_push _ _
  show b < (s.heap.push { cls := .type "tuple_iterator", data := .fields #[.ref l, .int 0 0] }).objs.size
  rw [sz]
  rcases List.mem_cons.mp hb with hb | hb
  · rw [hb]
    exact Nat.lt_succ_self _
  · rw [List.mem_singleton.mp hb]
    exact Nat.lt_succ_of_lt old
theorem zt_old {h' : Heap} (hk : ∀ b o, b ∉ [s.heap.objs.size] → (s.heap.push { cls := .type "tuple_iterator", data := .fields #[.ref l, .int 0 0] }).get? b = some o → h'.get? b = some o) : ∀ b o, s.heap.get? b = some o → h'.get? b = some o := fun b o e =>
  hk b o (fun z => Nat.lt_irrefl _ (List.mem_singleton.mp z ▸ Heap.lt_size e)) (Heap.get?_push_of_some _ e)
theorem zt_sum {Q : Value → Shared → Prop} (hh : A.handled = none) (hl : s.heap.IsTuple l (intItems xs)) (h : ∀ h' tk t', (∀ b o, s.heap.get? b = some o → h'.get? b = some o) → Q (.int (preSum (numAt xs) xs.size) t') { s with heap := h', toks := tk }) :
    wpAny (model prog w) A (call (.builtin "sum") [.ref l]) Q E s := by
  refine call_sum_walkG (zt_iter hl fun s₂ e st hfp hne => ?_)
  subst e
  refine ⟨_, _, _, _, _, _, numAt xs, rfl, Walks.tuple (A := A.in1) hh _ l hne (intItems xs), st, hfp, (fun i v hv => intItems_at hv), fun h' tk t' hk => ?_⟩
  have q := h h' tk t' (zt_old hk)
  simpa [intItems] using q
theorem zt_max {Q : Value → Shared → Prop} (hh : A.handled = none) (hl : s.heap.IsTuple l (intItems xs)) (hne : 0 < xs.size)
    (h : ∀ v h' tk, (intItems xs)[argBest (fun i j => decide (numAt xs i > numAt xs j)) (xs.size - 1)]? = some v → (∀ b o, s.heap.get? b = some o → h'.get? b = some o) → Q v { s with heap := h', toks := tk }) : wpAny (model prog w) A (call (.builtin "max") [.ref l]) Q E s := by
  refine call_max_walk (zt_iter hl fun s₂ e st hfp hli => ?_)
  subst e
  exact ⟨_, _, _, _, _, _, _, rfl, Walks.tuple (A := A.in1) hh _ l hli (intItems xs), st, hfp, by simpa [intItems] using hne, CmpOf.ints_gt (numAt xs) (fun i v hv => intItems_at hv), fun v h' tk hP hk => h v h' tk (by simpa [intItems] using hP) (zt_old hk)⟩
end
end PySem
namespace Z
open PySem PySem.Spec PyProof.Rows L2
section
variable {prog : Program} {w : World} {A : Around} {E : Value → Shared → Prop} {s : Shared} {l : Addr} {its : List Value} {ns : List Int} {Q : Value → Shared → Prop}
theorem zt_sumR (hh : A.handled = none) (hl : s.heap.IsTuple l its.toArray) (hi : IntsAre its ns) (h : ∀ h' tk t', (∀ b o, s.heap.get? b = some o → h'.get? b = some o) → Q (.int ns.sum t') { s with heap := h', toks := tk }) : wpAny (model prog w) A (call (.builtin "sum") [.ref l]) Q E s := by
  have hn := hi.numsOf
  obtain ⟨xs, e⟩ := hi.allInts.items
  rw [e] at hl
  refine zt_sum hh hl fun h' tk t' hk => ?_
  have q := h h' tk t' hk
  have hn2 : numsOf (intItems xs).toList = ns := by
    rw [← e]
    exact hn
  rw [nums_intItems] at hn2
  rw [preSum_eq, List.take_of_length_le (by simp), hn2]
  exact q
theorem zt_maxR (hh : A.handled = none) (hl : s.heap.IsTuple l its.toArray) (hi : IntsAre its ns) (hne : 0 < ns.length)
    (h : ∀ h' tk M t', (∀ b o, s.heap.get? b = some o → h'.get? b = some o) → M ∈ ns → (∀ a, a ∈ ns → a ≤ M) → Q (.int M t') { s with heap := h', toks := tk }) : wpAny (model prog w) A (call (.builtin "max") [.ref l]) Q E s := by
  have hn := hi.numsOf
  obtain ⟨xs, e⟩ := hi.allInts.items
  rw [e] at hl
  have hn2 : numsOf (intItems xs).toList = ns := by
    rw [← e]
    exact hn
  rw [nums_intItems] at hn2
  subst hn2
  have hz : 0 < xs.size := by simpa using hne
  refine zt_max hh hl hz fun v h' tk hv hk => ?_
  obtain ⟨t, rfl⟩ := intItems_at hv
  obtain ⟨h1, h2⟩ := argBest_gt (numAt xs) (xs.size - 1)
  refine h h' tk _ t hk ?_ fun a ha => ?_
  · rw [numAt_eq]
    refine PySem.getD_mem ?_
    rw [List.length_map, Array.length_toList]
    omega
  · obtain ⟨j, hj, e2⟩ := mem_getD ha
    rw [List.length_map, Array.length_toList] at hj
    rw [← e2, ← numAt_eq]
    exact h2 j (by omega)
end
/-- sum and max, lists and tuples -/
def rSumZ (K : PySem.W.Frag) : List V → Hp → VK → Prop := fun vs H Q => rSum K vs H Q ∨ ∃ (a : Addr) (ns : List Int), vs = [V.ref a] ∧ SqT K H a (ns.map V.int) ∧ Q (.int ns.sum) H
theorem call_sumZ {X : Cx} (hc : X.calm = true) : CallR X (.builtin "sum") (rSumZ X.K) := (cr_sum hc).or fun pins s σ H vs us Q I r h => by
  obtain ⟨a, ns, rfl, hs, q⟩ := h
  obtain ⟨its, rv, hl, _⟩ := I.tuple hs
  rw [Vals.ref1 r]
  exact zt_sumR (I.ok.hd hc) hl rv.ints fun h' tk t' hk => ⟨.int _, H, I.kept hk, ⟨_, rfl⟩, q⟩
def rMaxZ (K : PySem.W.Frag) : List V → Hp → VK → Prop := fun vs H Q => (rMax K vs H Q ∨ ∃ (a : Addr) (ns : List Int), vs = [V.ref a] ∧ SqT K H a (ns.map V.int) ∧ 0 < ns.length ∧ ∀ m, m ∈ ns → (∀ y, y ∈ ns → y ≤ m) → Q (.int m) H) ∨ ∃ i j, vs = [.int i, .int j] ∧ Q (.int (if j > i then j else i)) H
theorem call_maxZ {X : Cx} (hc : X.calm = true) : CallR X (.builtin "max") (rMaxZ X.K) := ((cr_max hc).or fun pins s σ H vs us Q I r h => by
  obtain ⟨a, ns, rfl, hs, hne, q⟩ := h
  obtain ⟨its, rv, hl, _⟩ := I.tuple hs
  rw [Vals.ref1 r]
  exact zt_maxR (I.ok.hd hc) hl rv.ints hne fun h' tk m t' hk h1 h2 => ⟨.int _, H, I.kept hk, ⟨_, rfl⟩, q m h1 h2⟩).or (call_max2 hc)
/-! slices -/
def cutD {α : Type} (ds : List α) (lo hi : Option Int) : List α := (ds.drop (HT.sIx ds.length 0 lo)).take (HT.sIx ds.length ds.length hi - HT.sIx ds.length 0 lo)
theorem cut_whole {α : Type} {ds : List α} {lo hi : Option Int} (h : HT.sIx ds.length 0 lo = 0 ∧ HT.sIx ds.length ds.length hi = ds.length) : cutD ds lo hi = ds := by
  unfold cutD
  rw [h.1, h.2, List.drop_zero, Nat.sub_zero, List.take_length]
def rSlZ (K : PySem.W.Frag) : V → Option Int → Option Int → Hp → VK → Prop := fun x lo hi H Q => rSlA K x lo hi H Q ∨ rSlL K x lo hi H Q ∨ rSlS x lo hi H Q
theorem sl_Z {X : Cx} : SlR X (rSlZ X.K) := sl_tupA.or (sl_list.or sl_str)
def CO (C : Cz) (t : TO) (ε : Ev) (L : Led) (q : Option Int → Led → Prop) : Prop :=
  ∀ (σ : L2.St) (H : Hp) (Q : Option Int → Hp → Prop), Rel C.K L ε σ H → ExOk C L H → (∀ o L' H', Grow H L H' L' → Keeps L L' → Rel C.K L' ε σ H' → q o L' → Q o H') → t σ H Q
def SD (C : Cz) (r : V → Option Int → Option Int → Hp → VK → Prop) (x : Rs) (lo hi : Option Int) (L : Led) (k : Rs → Led → Prop) : Prop :=
  ∀ (v : V) (H : Hp) (Q : VK), LOk C.K L H → RsOk C.K L H v x → (∀ z s L' H', Grow H L H' L' → Keeps L L' → LOk C.K L' H' → RsOk C.K L' H' z s → k s L' → Q z H') → r v lo hi H Q
section
variable {C : Cz} {ε : Ev} {L : Led} {k : Rs → Led → Prop} {K : PySem.W.Frag} {te ta tb tc : TE} {tA : TA} {P : Post} {tl th : TO}
theorem co_none {q : Option Int → Led → Prop} (h : q none L) : CO C tNoPart ε L q := fun σ H Q R X z => z none L H (Grow.refl H L) (Keeps.refl L) R h
theorem co_some {q : Option Int → Led → Prop} (h : CP C te ε L fun r L1 => ∃ i, r = .dat (.int i) ∧ q (some i) L1) : CO C (tPart te) ε L q := fun σ H Q R X z =>
  h σ H _ R X fun v x L1 H1 g1 k1 R1 o1 ⟨i, e, q⟩ => by
    subst e
    cases o1
    exact ⟨i, rfl, z (some i) L1 H1 g1 k1 R1 q⟩
theorem cp_sl {r : V → Option Int → Option Int → Hp → VK → Prop} (h : CP C te ε L fun x L1 => CO C tl ε L1 fun lo L2 => CO C th ε L2 fun hi L3 => SD C r x lo hi L3 k) : CP C (tSl r te tl th) ε L k := fun σ H Q R X z =>
  h σ H _ R X fun v x L1 H1 g1 k1 R1 o1 h1 => h1 σ H1 _ R1 (X.grow g1) fun lo L2 H2 g2 k2 R2 h2 => h2 σ H2 _ R2 ((X.grow g1).grow g2) fun hi L3 H3 g3 k3 R3 h3 =>
    h3 v H3 Q R3.led ((o1.grow g2 k2).grow g3 k3) fun u s L4 H4 g4 k4 l4 o4 q => z u s L4 H4 (((g1.trans g2).trans g3).trans g4) (((k1.trans k2).trans k3).trans k4) (R3.grow g4 k4 l4) o4 q
theorem rpAll_cut {H : Hp} {xs : List V} {ds : List PyData} (h : RpAll K H xs ds) (lo hi : Option Int) : RpAll K H (cutV xs lo hi) (cutD ds lo hi) := by
  unfold cutV cutD
  rw [rpAll_len h]
  exact rpAll_take _ (rpAll_drop _ h)
theorem sd_tup {ds : List PyData} {lo hi : Option Int} (q : k (.dat (.tuple (cutD ds lo hi))) L) (hK : C.K = K := by rfl) : SD C (rSlZ K) (.dat (.tuple ds)) lo hi L k := fun v H Q l o f => by
  subst hK
  have o' : Rp C.K (hid L H) v (.tuple ds) := o
  cases o' with
  | @tup p xs _ e ha =>
    refine .inl ⟨p, xs, rfl, ext_t hid_sub e, fun hw => ?_, fun hw a ha2 => ?_⟩
    · rw [rpAll_len ha] at hw
      rw [cut_whole hw] at q
      exact f _ (.dat (.tuple ds)) L H (Grow.refl H L) (Keeps.refl L) l o q
    · have g : Grow H L (upd H a (.tup (cutV xs lo hi))) L := grow_new ha2
      exact f _ (.dat (.tuple (cutD ds lo hi))) L _ g (Keeps.refl L) (l.new ha2) (.tup (SqT.of (by rw [hid_out (l.fresh ha2)]; exact upd_same)) (rpAll_mono g.ext (rpAll_cut ha lo hi))) q
theorem sd_lst {ds : List PyData} {lo hi : Option Int} (q : k (.dat (.list (cutD ds lo hi))) L) : SD C (rSlZ K) (.dat (.list ds)) lo hi L k := fun v H Q l o f => by
  have o' : Rp C.K (hid L H) v (.list ds) := o
  cases o' with
  | @lst p xs _ e ha =>
    refine .inr (.inl ⟨p, xs, rfl, SqL.of (hid_sub _ _ e), fun a ha2 => ?_⟩)
    have g : Grow H L (upd H a (.lst (cutV xs lo hi))) L := grow_new ha2
    exact f _ (.dat (.list (cutD ds lo hi))) L _ g (Keeps.refl L) (l.new ha2) (.lst (by rw [hid_out (l.fresh ha2)]; exact upd_same) (rpAll_mono g.ext (rpAll_cut ha lo hi))) q
theorem sd_str {z : Str} {lo hi : Option Int} (hz : z.length ≤ sizeLine) (q : k (.dat (.str ⟨(cutD z.cps.toList lo hi).toArray⟩)) L) : SD C (rSlZ K) (.dat (.str z)) lo hi L k := fun v H Q l o f => by
  have o' : Rp C.K (hid L H) v (.str z) := o
  cases o'
  refine .inr (.inr ⟨z, rfl, hz, ?_⟩)
  have e : cutS z lo hi = ⟨(cutD z.cps.toList lo hi).toArray⟩ := by
    unfold cutD
    rw [Array.length_toList]
    rfl
  rw [e]
  exact f _ (.dat (.str _)) L H (Grow.refl H L) (Keeps.refl L) l (.str _) q
/-! stars -/
theorem star_rs {H : Hp} : ∀ {vs : List V} {ds : List PyData}, RpAll K (hid L H) vs ds → ∀ {ws : List V} {ys : List Rs}, RsAll K L H ws ys → RsAll K L H (vs ++ ws) (ds.map Rs.dat ++ ys)
  | _, _, .nil, _, _, s => s
  | _, _, .cons h t, _, _, s => .cons h (star_rs t s)
theorem ca_star {tr : TA} {kA : List Rs → Led → Prop} (h : CP C te ε L fun x L1 => ∃ ds, (x = .dat (.list ds) ∨ x = .dat (.tuple ds)) ∧ CA C tr ε L1 fun ys L2 => kA (ds.map Rs.dat ++ ys) L2) (hK : C.K = K := by rfl) : CA C (StX.tStar K te tr) ε L kA := fun σ H Q R X z => by
  subst hK
  refine h σ H _ R X fun v x L1 H1 g1 k1 R1 o1 ⟨ds, e, h1⟩ => ?_
  have key : ∀ (vs : List V), RpAll C.K (hid L1 H1) vs ds → ∀ L2 H2, Grow H1 L1 H2 L2 → Keeps L1 L2 → ∀ ws ys, RsAll C.K L2 H2 ws ys → RsAll C.K L2 H2 (vs ++ ws) (ds.map Rs.dat ++ ys) := by
    intro vs hv
    intro L2 H2 g2 k2 ws ys hw
    exact star_rs (rpAll_mono g2.ext hv) hw
  rcases e with e | e
  · subst e
    cases o1 with
    | @lst p xs _ e2 ha => exact ⟨p, xs, rfl, .inr (SqL.of (hid_sub _ _ e2)), h1 σ H1 _ R1 (X.grow g1) fun ws ys L2 H2 g2 k2 R2 o2 q => z _ _ L2 H2 (g1.trans g2) (k1.trans k2) R2 (key xs ha L2 H2 g2 k2 ws ys o2) q⟩
  · subst e
    cases o1 with
    | @tup p xs _ e2 ha => exact ⟨p, xs, rfl, .inl (ext_t hid_sub e2), h1 σ H1 _ R1 (X.grow g1) fun ws ys L2 H2 g2 k2 R2 o2 q => z _ _ L2 H2 (g1.trans g2) (k1.trans k2) R2 (key xs ha L2 H2 g2 k2 ws ys o2) q⟩
/-! chains, stores at once -/
theorem cp_chain {r r' : R2} (h : CP C ta ε L fun x L1 => CP C tb ε L1 fun y L2 => OD C r x y L2 fun z L3 => ∃ b, z = .dat (.bool b) ∧ if b = true then CP C tc ε L3 fun w L4 => OD C r' y w L4 k else k (.dat (.bool false)) L3) : CP C (tChain r r' ta tb tc) ε L k := fun σ H Q R X z =>
  h σ H _ R X fun v x L1 H1 g1 k1 R1 o1 h1 => h1 σ H1 _ R1 (X.grow g1) fun w y L2 H2 g2 k2 R2 o2 h2 => h2 v w H2 _ R2.led (o1.grow g2 k2) o2 fun u s L3 H3 g3 k3 l3 o3 ⟨b, e, q⟩ => by
    subst e
    cases o3
    have R3 := R2.grow g3 k3 l3
    have g123 := (g1.trans g2).trans g3
    have k123 := (k1.trans k2).trans k3
    refine ⟨b, rfl, ?_⟩
    cases b with
    | true =>
      rw [if_pos rfl] at q ⊢
      exact q σ H3 _ R3 (X.grow g123) fun u2 y2 L4 H4 g4 k4 R4 o4 h4 => h4 w u2 H4 Q R4.led ((o2.grow g3 k3).grow g4 k4) o4 fun u5 s5 L5 H5 g5 k5 l5 o5 q5 => z u5 s5 L5 H5 ((g123.trans g4).trans g5) ((k123.trans k4).trans k5) (R4.grow g5 k5 l5) o5 q5
    | false =>
      rw [if_neg (by decide)] at q ⊢
      exact z _ (.dat (.bool false)) L3 H3 g123 k123 R3 (.bl false) q
theorem hs_par {i j : Nat} (h : CA C tA ε L fun rs L1 => ∃ a b, rs = [a, b] ∧ P.nx ((ε.set i (some a)).set j (some b)) L1) : HS C (tPar i j tA) ε L P := fun σ H D R X E =>
  h σ H _ R X fun vs rs L1 H1 g1 k1 R1 o1 ⟨a, b, e, q⟩ => by
    subst e
    obtain ⟨v, w, rfl, oa, ob⟩ := rsAll_2 o1
    exact ⟨v, w, rfl, E.nx _ L1 _ H1 g1 (rel_set (rel_set R1 oa) ob) q⟩
theorem rsAll_3 {H : Hp} {vs : List V} {r s t : Rs} (o : RsAll K L H vs [r, s, t]) : ∃ u v w, vs = [u, v, w] ∧ RsOk K L H u r ∧ RsOk K L H v s ∧ RsOk K L H w t := by
  cases o with
  | cons a b =>
    obtain ⟨v, w, rfl, c, d⟩ := rsAll_2 b
    exact ⟨_, v, w, rfl, a, c, d⟩
theorem hs_par3 {i j l : Nat} (h : CA C tA ε L fun rs L1 => ∃ a b c, rs = [a, b, c] ∧ P.nx (((ε.set i (some a)).set j (some b)).set l (some c)) L1) : HS C (tPar3 i j l tA) ε L P := fun σ H D R X E =>
  h σ H _ R X fun vs rs L1 H1 g1 k1 R1 o1 ⟨a, b, c, e, q⟩ => by
    subst e
    obtain ⟨u, v, w, rfl, oa, ob, oc⟩ := rsAll_3 o1
    exact ⟨u, v, w, rfl, E.nx _ L1 _ H1 g1 (rel_set (rel_set (rel_set R1 oa) ob) oc) q⟩
theorem hs_ifJ {tt : TT} {t u : TS} (J : Ev → Led → Prop) (h : CT C tt ε L fun b L1 => if b = true then HS C t ε L1 { P with nx := J } else HS C u ε L1 { P with nx := J }) (h2 : ∀ e l, J e l → P.nx e l) : HS C (tIfS tt t u) ε L P :=
  (hs_if (P := { P with nx := J }) h).mono h2 (fun _ _ z => z) (fun _ _ z => z) fun _ _ z => z
theorem hs_whileJ {tc : TT} {tbd : TS} (J : Ev → Led → Prop) (I : Ev → Led → Prop) (μ : Ev → Led → Nat) (h0 : I ε L) (hs : ∀ ε' L', I ε' L' → CT C tc ε' L' fun b L2 => if b = true then HS C tbd ε' L2 { P with nx := fun e l => I e l ∧ μ e l < μ ε' L', ct := fun e l => I e l ∧ μ e l < μ ε' L', bk := J } else J ε' L2) (h2 : ∀ e l, J e l → P.nx e l) : HS C (tWhile tc tbd) ε L P :=
  (hs_while (P := { P with nx := J }) I μ h0 hs).mono h2 (fun _ _ z => z) (fun _ _ z => z) fun _ _ z => z
theorem hs_forJ {wi : TI} {g : TG} {tbd : TS} (J : Ev → Led → Prop) (h : HS C (tFor wi g tbd) ε L { P with nx := J }) (h2 : ∀ e l, J e l → P.nx e l) : HS C (tFor wi g tbd) ε L P :=
  h.mono h2 (fun _ _ z => z) (fun _ _ z => z) fun _ _ z => z
theorem at_last {α : Type} {ds : List α} {d : α} (h : ds[ds.length - 1]? = some d) : atI ds (-1) = some d := by
  have h0 : 0 < ds.length := by
    have := (List.getElem?_eq_some_iff.mp h).1
    omega
  unfold atI ixN
  rw [if_neg (by decide), if_pos (by omega)]
  show ds[((-1 : Int) + (ds.length : Int)).toNat]? = _
  rw [show ((-1 : Int) + (ds.length : Int)).toNat = ds.length - 1 by omega]
  exact h
theorem hs_asgG {g : TG} (h : CP C te ε L fun r L1 => CG C g r ε L1 P.nx) : HS C (tAsg te g) ε L P := fun σ H D R X E =>
  h σ H _ R X fun v r L1 H1 g1 k1 R1 o1 q => q v σ H1 _ R1 o1 fun ε2 L2 σ2 H2 g2 k2 R2 q2 => E.nx ε2 L2 σ2 H2 (g1.trans g2) R2 q2
theorem hs_asgT2 {i j : Nat} (h : CP C te ε L fun r L1 => CG C (gTup K 2 (gCons (gName i) (gCons (gName j) gNil))) r ε L1 P.nx) : HS C (tAsg te (gTup K 2 (gCons (gName i) (gCons (gName j) gNil)))) ε L P := hs_asgG h
theorem hs_pass (h : P.nx ε L) : HS C tNext ε L P := hs_next h
/-! by values -/
theorem od_ip_add {i j : Int} (q : k (.dat (.int (i + j))) L) : OD C (ipI fun a b => a + b) (.dat (.int i)) (.dat (.int j)) L k := od_val (fun v w H l a b => by
  cases a
  cases b
  exact ⟨.int (i + j), .int _, fun Q f => ⟨i, j, rfl, rfl, f⟩⟩) q
theorem od_ip_sub {i j : Int} (q : k (.dat (.int (i - j))) L) : OD C (ipI fun a b => a - b) (.dat (.int i)) (.dat (.int j)) L k := od_val (fun v w H l a b => by
  cases a
  cases b
  exact ⟨.int (i - j), .int _, fun Q f => ⟨i, j, rfl, rfl, f⟩⟩) q
theorem cd_sumZ_lst {ns : List Int} (q : k (.dat (.int ns.sum)) L) : CD C (rSumZ K) [.dat (.list (ns.map PyData.int))] L k := cd_or1 (cd_sum q)
theorem cd_sumZ_tup {ns : List Int} (q : k (.dat (.int ns.sum)) L) (hK : C.K = K := by rfl) : CD C (rSumZ K) [.dat (.tuple (ns.map PyData.int))] L k := by
  subst hK
  refine cd_or2 (cd_val (fun vs H l o => ?_) q)
  obtain ⟨v, rfl, o1⟩ := rsAll_1 o
  cases o1 with
  | @tup p xs _ e ha =>
    have ex := ints_of ha
    subst ex
    exact ⟨.int _, .int _, fun Q f => ⟨p, ns, rfl, ext_t hid_sub e, f⟩⟩
/-- the greatest of some -/
def maxI : List Int → Int
  | [] => 0
  | a :: r => r.foldl max a
theorem foldl_max (r : List Int) : ∀ a : Int, (r.foldl max a = a ∨ r.foldl max a ∈ r) ∧ a ≤ r.foldl max a ∧ ∀ y ∈ r, y ≤ r.foldl max a := by
  induction r with
  | nil => exact fun a => ⟨.inl rfl, Int.le_refl a, fun y h => nomatch h⟩
  | cons b t ih =>
    intro a
    obtain ⟨h1, h2, h3⟩ := ih (max a b)
    rw [List.foldl_cons]
    refine ⟨?_, by omega, fun y hy => ?_⟩
    · rcases h1 with h1 | h1
      · by_cases hab : a ≤ b
        · rw [Int.max_eq_right hab] at h1 ⊢
          exact .inr (by rw [h1]; exact List.mem_cons_self)
        · rw [Int.max_eq_left (by omega)] at h1 ⊢
          exact .inl h1
      · exact .inr (List.mem_cons_of_mem _ h1)
    · rcases List.mem_cons.mp hy with e | e
      · subst e
        omega
      · exact h3 y e
theorem maxI_mem {ns : List Int} (h : 0 < ns.length) : maxI ns ∈ ns := by
  cases ns with
  | nil => simp at h
  | cons a r =>
    rcases (foldl_max r a).1 with e | e
    · show r.foldl max a ∈ a :: r
      rw [e]
      exact List.mem_cons_self
    · exact List.mem_cons_of_mem _ e
theorem maxI_le {ns : List Int} {y : Int} (h : y ∈ ns) : y ≤ maxI ns := by
  cases ns with
  | nil => cases h
  | cons a r =>
    rcases List.mem_cons.mp h with e | e
    · subst e
      exact (foldl_max r y).2.1
    · exact (foldl_max r a).2.2 y e
theorem cd_max_lst {ns : List Int} (h : 0 < ns.length) (q : k (.dat (.int (maxI ns))) L) : CD C (rMaxZ K) [.dat (.list (ns.map PyData.int))] L k := cd_or1 (cd_or1 (cd_val (fun vs H l o => by
  obtain ⟨v, rfl, o1⟩ := rsAll_1 o
  cases o1 with
  | @lst p xs _ e ha =>
    have ex := ints_of ha
    subst ex
    refine ⟨.int (maxI ns), .int _, fun Q f => ⟨p, ns, rfl, SqL.of (hid_sub _ _ e), h, fun m h1 h2 => ?_⟩⟩
    have em : m = maxI ns := Int.le_antisymm (maxI_le h1) (h2 _ (maxI_mem h))
    rw [em]
    exact f) q))
theorem cd_max_tup {ns : List Int} (h : 0 < ns.length) (q : k (.dat (.int (maxI ns))) L) (hK : C.K = K := by rfl) : CD C (rMaxZ K) [.dat (.tuple (ns.map PyData.int))] L k := by
  subst hK
  refine cd_or1 (cd_or2 (cd_val (fun vs H l o => ?_) q))
  obtain ⟨v, rfl, o1⟩ := rsAll_1 o
  cases o1 with
  | @tup p xs _ e ha =>
    have ex := ints_of ha
    subst ex
    refine ⟨.int (maxI ns), .int _, fun Q f => ⟨p, ns, rfl, ext_t hid_sub e, h, fun m h1 h2 => ?_⟩⟩
    have em : m = maxI ns := Int.le_antisymm (maxI_le h1) (h2 _ (maxI_mem h))
    rw [em]
    exact f
theorem cd_max2 {i j : Int} (q : k (.dat (.int (if j > i then j else i))) L) : CD C (rMaxZ K) [.dat (.int i), .dat (.int j)] L k := cd_or2 (cd_val (fun vs H l o => by
  have e := rsAll_int2 o
  subst e
  exact ⟨.int _, .int _, fun Q f => ⟨i, j, rfl, f⟩⟩) q)
/-- tuple(xs), list(xs) -/
def rTupZ (K : PySem.W.Frag) : List V → Hp → VK → Prop := fun xs H Q => ∃ p ys, xs = [.ref p] ∧ ((SqL K H p ys ∧ ∀ l, H l = none → Q (.ref l) (upd H l (.tup ys))) ∨ (SqT K H p ys ∧ Q (.ref p) H))
theorem call_tupleZ {X : Cx} : CallR X (.type "tuple") (rTupZ X.K) := call_tuple_of
theorem cd_tup_lst {ds : List PyData} (q : k (.dat (.tuple ds)) L) : CD C (rTupZ K) [.dat (.list ds)] L k := fun vs H Q l o f => by
  obtain ⟨v, rfl, o1⟩ := rsAll_1 o
  cases o1 with
  | @lst p xs _ e ha =>
    refine ⟨p, xs, rfl, .inl ⟨SqL.of (hid_sub _ _ e), fun a ha2 => ?_⟩⟩
    have g : Grow H L (upd H a (.tup xs)) L := grow_new ha2
    exact f _ (.dat (.tuple ds)) L _ g (Keeps.refl L) (l.new ha2) (.tup (SqT.of (by rw [hid_out (l.fresh ha2)]; exact upd_same)) (rpAll_mono g.ext ha)) q
theorem cd_tup_own {a : Addr} {ds : List PyData} (m : (a, .lst ds) ∈ L) (q : k (.dat (.tuple ds)) L) : CD C (rTupZ K) [.own a] L k := fun vs H Q l o f => by
  obtain ⟨v, rfl, o1⟩ := rsAll_1 o
  obtain ⟨rfl, ha⟩ := o1
  obtain ⟨xs, ex, hx⟩ := l.isLst m
  refine ⟨a, xs, rfl, .inl ⟨SqL.of ex, fun p hp => ?_⟩⟩
  have g : Grow H L (upd H p (.tup xs)) L := grow_new hp
  exact f _ (.dat (.tuple ds)) L _ g (Keeps.refl L) (l.new hp) (.tup (SqT.of (by rw [hid_out (l.fresh hp)]; exact upd_same)) (rpAll_mono g.ext hx)) q
def rLstZ (K : PySem.W.Frag) : List V → Hp → VK → Prop := fun xs H Q => ∃ p ys, xs = [.ref p] ∧ (SqL K H p ys ∨ SqT K H p ys) ∧ ∀ l, H l = none → Q (.ref l) (upd H l (.lst ys))
theorem call_listZ {X : Cx} : CallR X (.type "list") (rLstZ X.K) := call_list_of
theorem cd_list_tup {ds : List PyData} (q : k (.dat (.list ds)) L) (hK : C.K = K := by rfl) : CD C (rLstZ K) [.dat (.tuple ds)] L k := by
  subst hK
  refine cd_lst (fun vs H l o => ?_) q
  obtain ⟨v, rfl, o1⟩ := rsAll_1 o
  cases o1 with
  | @tup p xs _ e ha => exact ⟨xs, ha, fun Q f => ⟨p, xs, rfl, .inr (ext_t hid_sub e), f⟩⟩
theorem cd_list_lst {ds : List PyData} (q : k (.dat (.list ds)) L) : CD C (rLstZ K) [.dat (.list ds)] L k := cd_lst (fun vs H l o => by
  obtain ⟨v, rfl, o1⟩ := rsAll_1 o
  cases o1 with
  | @lst p xs _ e ha => exact ⟨xs, ha, fun Q f => ⟨p, xs, rfl, .inl (SqL.of (hid_sub _ _ e)), f⟩⟩) q
/-- sorted(xs) of ints -/
theorem cd_sortedI {ns ms : List Int} (hp : ms.Perm ns) (hs : ms.Pairwise (· ≤ ·)) (q : k (.dat (.list (ms.map PyData.int))) L) : CD C (rSortedI K) [.dat (.list (ns.map PyData.int))] L k := cd_lst (fun vs H l o => by
  obtain ⟨v, rfl, o1⟩ := rsAll_1 o
  cases o1 with
  | @lst p xs _ e ha =>
    have ex := ints_of ha
    subst ex
    refine ⟨ms.map V.int, rpAll_ints ms, fun Q f => ⟨p, ns, rfl, SqL.of (hid_sub _ _ e), fun ns' a h1 h2 h3 => ?_⟩⟩
    have en : ns' = ms := List.Perm.eq_of_pairwise (fun a b _ _ h1 h2 => Int.le_antisymm h1 h2) h2 hs (h1.trans hp.symm)
    rw [en]
    exact f a h3) q
/-! in, over ints -/
theorem inV_ints (i : Int) : ∀ ns : List Int, inV (.int i) (ns.map V.int) = decide (i ∈ ns)
  | [] => by
    simp [inV]
  | a :: r => by
    have h := inV_ints i r
    unfold inV at h ⊢
    rw [List.map_cons, List.any_cons, h]
    have e : eqV (.int a) (.int i) = decide (a = i) := by
      show (a == i) = _
      by_cases z : a = i
      · rw [decide_eq_true z]
        exact beq_iff_eq.mpr z
      · rw [decide_eq_false z]
        exact beq_eq_false_iff_ne.mpr z
    rw [e]
    by_cases h1 : a = i
    · subst h1
      simp
    · rw [decide_eq_false h1, Bool.false_or]
      have : (i ∈ a :: r) ↔ i ∈ r := by
        rw [List.mem_cons]
        exact ⟨fun h => h.resolve_left fun z => h1 z.symm, .inr⟩
      simp [this]
theorem flat_ints (ns : List Int) : (ns.map V.int).all flatV = true := by
  induction ns with
  | nil => rfl
  | cons a r ih =>
    rw [List.map_cons, List.all_cons, ih]
    rfl
theorem od_in_tup {i : Int} {ns : List Int} (q : k (.dat (.bool (decide (i ∈ ns)))) L) (hK : C.K = K := by rfl) : OD C (rInZ K) (.dat (.int i)) (.dat (.tuple (ns.map PyData.int))) L k := by
  subst hK
  refine od_or2 (od_val (fun v w H l a b => ?_) q)
  cases a
  cases b with
  | @tup p xs _ e ha =>
    have ex := ints_of ha
    subst ex
    exact ⟨.bl _, .bl _, fun Q f => ⟨p, _, rfl, .inr (ext_t hid_sub e), rfl, flat_ints ns, by rw [if_neg (by decide), inV_ints]; exact f⟩⟩
theorem od_notIn_tup {i : Int} {ns : List Int} (q : k (.dat (.bool (!decide (i ∈ ns)))) L) (hK : C.K = K := by rfl) : OD C (rNotInZ K) (.dat (.int i)) (.dat (.tuple (ns.map PyData.int))) L k := by
  subst hK
  refine od_or2 (od_val (fun v w H l a b => ?_) q)
  cases a
  cases b with
  | @tup p xs _ e ha =>
    have ex := ints_of ha
    subst ex
    exact ⟨.bl _, .bl _, fun Q f => ⟨p, _, rfl, .inr (ext_t hid_sub e), rfl, flat_ints ns, by rw [if_pos rfl, inV_ints]; exact f⟩⟩
/-- xs + ys, written on later -/
theorem od_add_own {ds es : List PyData} (h : ds.length + es.length ≤ sizeLine) (q : ∀ p, p ∉ L.ks → k (.own p) (plus L p (ds ++ es))) : OD C (rAddZ K) (.dat (.list ds)) (.dat (.list es)) L k := fun v w H Q l a b f => .inr (.inr (.inl (by
  have a' : Rp C.K (hid L H) v (.list ds) := a
  have b' : Rp C.K (hid L H) w (.list es) := b
  cases a' with
  | @lst p xs _ e1 h1 =>
    cases b' with
    | @lst p2 ys _ e2 h2 =>
      refine ⟨p, p2, xs, ys, rfl, rfl, hid_sub _ _ e1, hid_sub _ _ e2, by rw [rpAll_len h1, rpAll_len h2]; exact h, fun a ha => ?_⟩
      exact f _ (.own a) _ _ (grow_own ha) keeps_own (l.own ha (rpAll_app h1 h2)) ⟨rfl, Led.key plus_mem⟩ (q a (l.fresh ha)))))
/-- (e,) * n -/
theorem od_mul_tup {ds : List PyData} {n : Int} (h : ds ≠ [] ∧ 2 ≤ n ∧ n ≤ 1000 ∧ ds.length ≤ 1000) (q : k (.dat (.tuple (List.replicate n.toNat ds).flatten)) L) (hK : C.K = K := by rfl) : OD C (rMulY K) (.dat (.tuple ds)) (.dat (.int n)) L k := fun v w H Q l a b f => .inl (.inr (.inr (by
  subst hK
  have a' : Rp C.K (hid L H) v (.tuple ds) := a
  cases b
  cases a' with
  | @tup p xs _ e ha =>
    have hl := rpAll_len ha
    refine ⟨p, n, xs, rfl, rfl, ext_t hid_sub e, fun z => h.1 (List.eq_nil_of_length_eq_zero (by rw [← hl, z]; rfl)), h.2.1, h.2.2.1, by rw [hl]; exact h.2.2.2, fun a2 ha2 => ?_⟩
    have g : Grow H L (upd H a2 (.tup (List.replicate n.toNat xs).flatten)) L := grow_new ha2
    exact f _ (.dat (.tuple (List.replicate n.toNat ds).flatten)) L _ g (Keeps.refl L) (l.new ha2) (.tup (SqT.of (by rw [hid_out (l.fresh ha2)]; exact upd_same)) (rpAll_mono g.ext (rpAll_rep ha _))) q)))
end
theorem slK {X : Cx} {K : PySem.W.Frag} {r : PySem.W.Frag → V → Option Int → Option Int → Hp → VK → Prop} (h : SlR X (r X.K)) (e : X.K = K) : SlR X (r K) := e ▸ h
theorem pa_starK {X : Cx} {K : PySem.W.Frag} {e : Expr} {es : List Expr} {p : Pos} {te : TE} {t : TA} (ek : X.K = K) (he : PE X e te) (hr : PA X es t) (hs : starEach (.Starred e p :: es) X.env = (true, eval e X.env) :: starEach es X.env := by rfl) : PA X (.Starred e p :: es) (StX.tStar K te t) := by
  subst ek
  exact StX.pa_star he hr hs
end Z

set_option Elab.async false
set_option linter.all false
set_option maxRecDepth 100000
set_option maxHeartbeats 2000000
/-! a def called out of a list of defs -/
namespace Z
open PySem PySem.Spec PyProof.Rows L2
def tCallV (Kn : Addr → Sp → Prop) (E : L2.St → XK) (te : TE) (t : TA) : TE := fun σ H Q => te σ H fun v H1 => ∃ f sp, v = .ref f ∧ Kn f sp ∧ t σ H1 fun vs H2 => sp vs H2 Q (E σ)
theorem pe_callV {X : Cx} {CX : CXT} {k : Nat} {Kn : Addr → Sp → Prop} {E : L2.St → XK} {fe e : Expr} {es : List Expr} {te : TE} {t : TA} {pos : Pos}
    (hK : ∀ f sp, Kn f sp → ∃ fd ps, FnOk X.prog X.w X.K X.mg X.base CX k f fd ps sp ∧ PySem.W.keepIn X.K (.ref f) = true ∧ Binds X.K fd ps []) (hr : Room k X.A) (hx : ∀ σ, PassesAt CX X σ (E σ)) (hf : PE X fe te) (ha : PA X (e :: es) t)
    (hc : eval (.Call fe (e :: es) [] pos) X.env = (do callWith pos (← eval fe X.env) [] (backTo pos (starEach (e :: es) X.env)) (backToKw pos (keywordEach [] X.env))) := by rfl)
    (he : starEach (e :: es) X.env = (false, eval e X.env) :: starEach es X.env := by rfl) (hpl : (backTo pos (starEach es X.env)).any (·.1) = false := by rfl) : PE X (.Call fe (e :: es) [] pos) (tCallV Kn E te t) := by
  refine ⟨fun pins s σ H Q I h => ?_⟩
  refine Call_ (thn (hf.run pins s σ H _ I h) fun u s1 ⟨v, H1, I1, r1, f, sp, ev, hk, q1⟩ => ?_) hc
  subst ev
  have eu : u = .ref f := r1
  subst eu
  obtain ⟨fd, ps, F, kp, hb⟩ := hK f sp hk
  exact PySem.W.callWith_K (h₀ := X.base) I1.ok.mod.kin kp (thn (ha.run pos pins s1 σ H1 _ I1 q1) fun us s2 ⟨vs, H2, I2, r2, q⟩ => ⟨I2.kIn, run_fnS F hr hb (hx σ) I2 r2 q⟩) he hpl
section
variable {C : Cz} {ε : Ev} {L : Led} {k : Rs → Led → Prop} {K : PySem.W.Frag} {te tb : TE} {ta : TA}
/-- the defs by their promises over data -/
def knD (K : PySem.W.Frag) (Kd : Addr → DSp → Prop) : Addr → Sp → Prop := fun f sp => ∃ d, Kd f d ∧ sp = lift K d
theorem cp_callV {Kd : Addr → DSp → Prop} (h : CP C te ε L fun x L1 => ∃ f d, x = .raw (.ref f) ∧ Kd f d ∧ CA C ta ε L1 fun rs L2 => d rs L2 k fun c L3 => C.kx c ε L3) : CP C (tCallV (knD C.K Kd) (WE C.W) te ta) ε L k := fun σ H Q R X z =>
  h σ H _ R X fun v x L1 H1 g1 k1 R1 o1 ⟨f, d, ex, hk, h1⟩ => by
    subst ex
    have ev : v = .ref f := o1
    exact ⟨f, lift C.K d, ev, ⟨d, hk, rfl⟩, h1 σ H1 _ R1 (X.grow g1) fun vs rs L2 H2 g2 k2 R2 o2 q =>
      ⟨rs, L2, k, _, o2, R2.led, q, fun v r L3 H3 g3 k3 l3 o3 q3 => z v r L3 H3 ((g1.trans g2).trans g3) ((k1.trans k2).trans k3) (R2.grow g3 k3 l3) o3 q3, fun c L3 H3 g3 k3 l3 f3 => X c ε σ L3 H3 ((g1.trans g2).trans g3) (R2.grow g3 k3 l3) f3⟩⟩
theorem rsAll_raws {H : Hp} : ∀ {vs ws : List V}, RsAll K L H vs (ws.map Rs.raw) → vs = ws
  | _, [], .nil => rfl
  | _, w :: r, .cons h t => by
    have e : _ = w := h
    rw [e, rsAll_raws t]
/-- [f, g, ..][i] -/
theorem cp_ixRaw (h : CA C ta ε L fun xs L1 => ∃ ws : List V, xs = ws.map Rs.raw ∧ ws.length ≤ sizeLine ∧ CP C tb ε L1 fun y L2 => ∃ (i : Int) (v : V), y = .dat (.int i) ∧ atI ws i = some v ∧ k (.raw v) L2) (hK : C.K = K := by rfl) : CP C (tOp (rIx K) (tLst ta) tb) ε L k := fun σ H Q R X z => by
  subst hK
  refine h σ H _ R X fun vs xs L1 H1 g1 k1 R1 o1 ⟨ws, e, hl, h1⟩ => ?_
  subst e
  have e2 := rsAll_raws o1
  subst e2
  refine ⟨hl, fun p hp => ?_⟩
  have hn : p ∉ L1.ks := R1.led.fresh hp
  have g2 : Grow H1 L1 (upd H1 p (.lst vs)) L1 := grow_new hp
  refine h1 σ _ _ (R1.grow g2 (Keeps.refl _) (R1.led.new hp)) ((X.grow g1).grow g2) fun u y L2 H2 g3 k3 R3 o3 ⟨i, v, ey, ei, q⟩ => ?_
  subst ey
  cases o3
  have hp2 : H2 p = some (.lst vs) := g3.old p _ upd_same hn
  exact .inl ⟨p, vs, i, v, rfl, rfl, SqL.of hp2, ei, z v (.raw v) L2 H2 ((g1.trans g2).trans g3) (k1.trans k3) R3 rfl q⟩
end
end Z

set_option linter.all false
/-! Y0: the plain outcomes of Python's blocks -/
namespace Y
/-- what comes of a block: σ what is known behind it, l the loop's state, ρ the def's answer -/
inductive Ctl (σ l ρ : Type) where
  | bad
  | nx (s : σ)
  | ct (s : l)
  | bk (s : l)
  | rt (r : ρ)
  | ex (c : Nat)
inductive Res (ρ : Type) where
  | bad
  | ok (r : ρ)
  | ex (c : Nat)
variable {σ τ l ρ α β : Type}
def Ctl.bind : Ctl σ l ρ → (σ → Ctl τ l ρ) → Ctl τ l ρ
  | .bad, _ => .bad
  | .nx s, f => f s
  | .ct s, _ => .ct s
  | .bk s, _ => .bk s
  | .rt r, _ => .rt r
  | .ex c, _ => .ex c
def run : Ctl σ l ρ → Res ρ
  | .rt r => .ok r
  | .ex c => .ex c
  | _ => .bad
/-- a def whose end is its answer None -/
def runN : Ctl σ l Unit → Res Unit
  | .rt _ => .ok ()
  | .nx _ => .ok ()
  | .ex c => .ex c
  | _ => .bad
open Classical in
noncomputable def grd (p : Prop) (o : Ctl σ l ρ) : Ctl σ l ρ := if p then o else .bad
def lt (v : α) (o : α → Ctl σ l ρ) : Ctl σ l ρ := o v
def forC : List α → σ → (α → σ → Ctl σ σ ρ) → Ctl σ l ρ
  | [], s, _ => .nx s
  | a :: r, s, f => match f a s with
    | .bad => .bad
    | .nx s => forC r s f
    | .ct s => forC r s f
    | .bk s => .nx s
    | .rt x => .rt x
    | .ex c => .ex c
def whileC (f : σ → Ctl σ σ ρ) : Nat → σ → Ctl σ l ρ
  | 0, _ => .bad
  | n + 1, s => match f s with
    | .bad => .bad
    | .nx s => whileC f n s
    | .ct s => whileC f n s
    | .bk s => .nx s
    | .rt x => .rt x
    | .ex c => .ex c
def callC (r : Res α) (f : α → Ctl σ l ρ) : Ctl σ l ρ := match r with
  | .bad => .bad
  | .ok a => f a
  | .ex c => .ex c
/-- the answer, an error's flags in its place -/
def tryC (r : Res α) (h : Nat → α) : Res α := match r with
  | .bad => .bad
  | .ok a => .ok a
  | .ex c => .ok (h c)
def Res.isOk : Res ρ → Bool
  | .ok _ => true
  | _ => false
def Res.get [Inhabited ρ] : Res ρ → ρ
  | .ok r => r
  | _ => default
theorem Res.eq_ok [Inhabited ρ] {o : Res ρ} (h : o.isOk = true) : o = .ok o.get := by
  cases o with
  | ok r => rfl
  | bad => cases h
  | ex c => cases h
section simps
@[simp] theorem bind_bad (f : σ → Ctl τ l ρ) : Ctl.bind (.bad : Ctl σ l ρ) f = .bad := rfl
@[simp] theorem bind_nx (s : σ) (f : σ → Ctl τ l ρ) : Ctl.bind (.nx s : Ctl σ l ρ) f = f s := rfl
@[simp] theorem bind_rt (r : ρ) (f : σ → Ctl τ l ρ) : Ctl.bind (.rt r : Ctl σ l ρ) f = .rt r := rfl
@[simp] theorem bind_ex (c : Nat) (f : σ → Ctl τ l ρ) : Ctl.bind (.ex c : Ctl σ l ρ) f = .ex c := rfl
@[simp] theorem bind_ct (s : l) (f : σ → Ctl τ l ρ) : Ctl.bind (.ct s : Ctl σ l ρ) f = .ct s := rfl
@[simp] theorem bind_bk (s : l) (f : σ → Ctl τ l ρ) : Ctl.bind (.bk s : Ctl σ l ρ) f = .bk s := rfl
@[simp] theorem run_rt (r : ρ) : run (.rt r : Ctl σ l ρ) = .ok r := rfl
@[simp] theorem run_ex (c : Nat) : run (.ex c : Ctl σ l ρ) = .ex c := rfl
@[simp] theorem run_bad : run (.bad : Ctl σ l ρ) = .bad := rfl
@[simp] theorem runN_rt (r : Unit) : runN (.rt r : Ctl σ l Unit) = .ok () := rfl
@[simp] theorem runN_nx (s : σ) : runN (.nx s : Ctl σ l Unit) = .ok () := rfl
@[simp] theorem runN_ex (c : Nat) : runN (.ex c : Ctl σ l Unit) = .ex c := rfl
@[simp] theorem callC_ok (a : α) (f : α → Ctl σ l ρ) : callC (.ok a) f = f a := rfl
@[simp] theorem callC_ex (c : Nat) (f : α → Ctl σ l ρ) : callC (.ex c) f = .ex c := rfl
@[simp] theorem lt_eq (v : α) (o : α → Ctl σ l ρ) : lt v o = o v := rfl
@[simp] theorem isOk_ok (r : ρ) : (Res.ok r).isOk = true := rfl
@[simp] theorem get_ok [Inhabited ρ] (r : ρ) : (Res.ok r).get = r := rfl
@[simp] theorem forC_nil (s : σ) (f : α → σ → Ctl σ σ ρ) : (forC [] s f : Ctl σ l ρ) = .nx s := rfl
theorem grd_pos {p : Prop} {o : Ctl σ l ρ} (h : p) : grd p o = o := if_pos h
@[simp] theorem grd_true {o : Ctl σ l ρ} : grd True o = o := if_pos trivial
end simps
/-! ### reasoning over loops -/
/-- a loop that goes through all items -/
theorem forC_nx {xs : List α} {s0 : σ} {f : α → σ → Ctl σ σ ρ} (g : α → σ → σ) (h : ∀ x ∈ xs, ∀ s, f x s = .nx (g x s)) : (forC xs s0 f : Ctl σ l ρ) = .nx (xs.foldl (fun s x => g x s) s0) := by
  induction xs generalizing s0 with
  | nil => rfl
  | cons a r ih =>
    unfold forC
    rw [h a List.mem_cons_self s0]
    exact ih fun x hx s => h x (List.mem_cons_of_mem _ hx) s
/-- by an invariant -/
theorem forC_inv {xs : List α} {s0 : σ} {f : α → σ → Ctl σ σ ρ} (I : Nat → σ → Prop) (h0 : I 0 s0) (h : ∀ i x s, xs[i]? = some x → I i s → ∃ s', (f x s = .nx s' ∨ f x s = .ct s') ∧ I (i + 1) s') :
    ∃ s', (forC xs s0 f : Ctl σ l ρ) = .nx s' ∧ I xs.length s' := by
  induction xs generalizing s0 I with
  | nil => exact ⟨s0, rfl, h0⟩
  | cons a r ih =>
    obtain ⟨s1, e, h1⟩ := h 0 a s0 rfl h0
    obtain ⟨s2, e2, h2⟩ := ih (s0 := s1) (fun i s => I (i + 1) s) h1 fun i x s hx hi => h (i + 1) x s (by simpa using hx) hi
    refine ⟨s2, ?_, h2⟩
    unfold forC
    rcases e with e | e <;> rw [e] <;> exact e2
/-- a while loop by an invariant and a measure -/
theorem whileC_inv {f : σ → Ctl σ σ ρ} (I : σ → Prop) (D : σ → Prop) (μ : σ → Nat) (h : ∀ s, I s → (∃ s', f s = .bk s' ∧ D s') ∨ ∃ s', (f s = .nx s' ∨ f s = .ct s') ∧ I s' ∧ μ s' < μ s) :
    ∀ (n : Nat) (s : σ), I s → μ s < n → ∃ s', (whileC f n s : Ctl σ l ρ) = .nx s' ∧ D s'
  | 0, s, _, hn => absurd hn (Nat.not_lt_zero _)
  | n + 1, s, hi, hn => by
    rcases h s hi with ⟨s', e, d⟩ | ⟨s', e, i', m⟩
    · exact ⟨s', by unfold whileC; rw [e], d⟩
    · obtain ⟨s2, e2, d2⟩ := whileC_inv I D μ h n s' i' (by omega)
      refine ⟨s2, ?_, d2⟩
      unfold whileC
      rcases e with e | e <;> rw [e] <;> exact e2
end Y

set_option Elab.async false
set_option linter.all false
set_option maxRecDepth 100000
set_option maxHeartbeats 2000000
namespace Y
open PySem PySem.Spec PyProof.Rows L2 Z
/-! ### values as data -/
abbrev eI : Int → PyData := PyData.int
abbrev eB : Bool → PyData := PyData.bool
abbrev eS : Str → PyData := PyData.str
abbrev eN : Unit → PyData := fun _ => PyData.none
abbrev eD : PyData → PyData := fun d => d
abbrev eL {α : Type} (e : α → PyData) (xs : List α) : PyData := .list (xs.map e)
abbrev eT {α : Type} (e : α → PyData) (xs : List α) : PyData := .tuple (xs.map e)
abbrev eP2 {α β : Type} (a : α → PyData) (b : β → PyData) (p : α × β) : PyData := .tuple [a p.1, b p.2]
abbrev eP3 {α β γ : Type} (a : α → PyData) (b : β → PyData) (c : γ → PyData) (p : α × β × γ) : PyData := .tuple [a p.1, b p.2.1, c p.2.2]
def eO {α : Type} (e : α → PyData) : Option α → PyData
  | none => .none
  | some x => e x
/-! ### judgements -/
section
variable {K : PySem.W.Frag}
/-- an expression: its value, the ledger behind -/
def EV (C : Cz) (te : TE) (ε : Ev) (L : Led) (r : Rs) (L' : Led) : Prop := ∀ k : Rs → Led → Prop, k r L' → CP C te ε L k
def ET (C : Cz) (tt : TT) (ε : Ev) (L : Led) (b : Bool) (L' : Led) : Prop := ∀ k : Bool → Led → Prop, k b L' → CT C tt ε L k
def EA (C : Cz) (ta : TA) (ε : Ev) (L : Led) (rs : List Rs) (L' : Led) : Prop := ∀ k : List Rs → Led → Prop, k rs L' → CA C ta ε L k
def EI (C : Cz) (wi : TI) (ε : Ev) (L : Led) (ds : List PyData) (L' : Led) : Prop := ∀ k : List PyData → Led → Prop, k ds L' → CI C wi ε L k
def EG (C : Cz) (g : TG) (r : Rs) (ε : Ev) (L : Led) (ε' : Ev) : Prop := ∀ k : Ev → Led → Prop, k ε' L → CG C g r ε L k
def EO (C : Cz) (to : TO) (ε : Ev) (L : Led) (o : Option Int) (L' : Led) : Prop := ∀ k : Option Int → Led → Prop, k o L' → CO C to ε L k
/-- a new list that is written on -/
def EW (C : Cz) (te : TE) (ε : Ev) (L : Led) (ds : List PyData) (L' : Led) : Prop := ∀ k : Rs → Led → Prop, (∀ p, p ∉ L'.ks → k (.own p) (plus L' p ds)) → CP C te ε L k
variable {C : Cz} {ε ε' : Ev} {L L1 L2 L3 : Led} {r x y z : Rs} {te ta tb tc : TE} {tt tu : TT} {tA : TA}
theorem ev_var {i : Nat} (h : ε[i]? = some (some r)) : EV C (tVar i) ε L r L := fun k q => cp_var h q
theorem ev_int {i : Int} : EV C (tC (.int i)) ε L (.dat (.int i)) L := fun k q => cp_int q
theorem ev_bl {b : Bool} : EV C (tC (.bl b)) ε L (.dat (.bool b)) L := fun k q => cp_bl q
theorem ev_str {s : Str} : EV C (tC (.str s)) ε L (.dat (.str s)) L := fun k q => cp_str q
theorem ev_non : EV C (tC .non) ε L (.dat .none) L := fun k q => cp_non q
theorem ev_ref {a : Addr} : EV C (tC (.ref a)) ε L (.raw (.ref a)) L := fun k q => cp_ref q
theorem ev_ty {n : String} : EV C (tC (.ty n)) ε L (.raw (.ty n)) L := fun k q => cp_ty q
theorem ev_as {x y : Rs} (h : EV C te ε L x L1) (e : x = y) : EV C te ε L y L1 := e ▸ h
/-- known to be of another form -/
theorem ev_cast {d e : PyData} (h : EV C te ε L (.dat d) L1) (q : d = e) : EV C te ε L (.dat e) L1 := q ▸ h
theorem ev_op {r : R2} (h1 : EV C ta ε L x L1) (h2 : EV C tb ε L1 y L2) (h3 : ∀ k, k z L2 → OD C r x y L2 k) : EV C (tOp r ta tb) ε L z L2 := fun k q =>
  cp_op (h1 _ (h2 _ (h3 _ q)))
theorem ev_un {r : V → Hp → VK → Prop} (h1 : EV C ta ε L x L1) (h3 : ∀ k, k z L1 → CD C (fun vs H Q => ∃ v, vs = [v] ∧ r v H Q) [x] L1 k) : EV C (tUn r ta) ε L z L1 := fun k q => cp_un (h1 _ (h3 _ q))
theorem ea_nil : EA C tNil ε L [] L := fun k q => ca_nil q
theorem ea_cons {xs : List Rs} {tr : TA} (h1 : EV C te ε L x L1) (h2 : EA C tr ε L1 xs L2) : EA C (tCons te tr) ε L (x :: xs) L2 := fun k q => ca_cons (h1 _ (h2 _ q))
theorem ea_star {tr : TA} {ds : List PyData} {xs : List Rs} (h1 : EV C te ε L x L1) (hx : x = .dat (.list ds) ∨ x = .dat (.tuple ds)) (h2 : EA C tr ε L1 xs L2) (hK : C.K = K := by rfl) : EA C (StX.tStar K te tr) ε L (ds.map Rs.dat ++ xs) L2 := fun k q =>
  ca_star (h1 _ ⟨ds, hx, h2 _ q⟩) hK
theorem ev_cb {r : List V → Hp → VK → Prop} {xs : List Rs} (h1 : EA C tA ε L xs L1) (h2 : ∀ k, k z L1 → CD C r xs L1 k) : EV C (tCB r tA) ε L z L1 := fun k q => cp_cb (h1 _ (h2 _ q))
/-- a list, a tuple as written -/
theorem ev_lst {ds : List PyData} {xs : List Rs} (h1 : EA C tA ε L xs L1) (e : xs = ds.map Rs.dat) (hl : ds.length ≤ sizeLine) : EV C (tLst tA) ε L (.dat (.list ds)) L1 := fun k q => cp_lst (h1 _ ⟨ds, e, hl, q⟩)
theorem ev_tup {ds : List PyData} {xs : List Rs} (h1 : EA C tA ε L xs L1) (e : xs = ds.map Rs.dat) (hl : ds.length ≤ sizeLine) : EV C (tTup tA) ε L (.dat (.tuple ds)) L1 := fun k q => cp_tup (h1 _ ⟨ds, e, hl, q⟩)
theorem ew_lst {ds : List PyData} {xs : List Rs} (h1 : EA C tA ε L xs L1) (e : xs = ds.map Rs.dat) (hl : ds.length ≤ sizeLine) : EW C (tLst tA) ε L ds L1 := fun k q => cp_lstO (h1 _ ⟨ds, e, hl, q⟩)
/-! tests -/
theorem et_test {b : Bool} (h : EV C te ε L (.dat (.bool b)) L1) : ET C (tTest te) ε L b L1 := fun k q => ct_test (h _ ⟨b, rfl, q⟩)
theorem et_b {b : Bool} (h : EV C te ε L (.dat (.bool b)) L1) : ET C (tB te) ε L b L1 := fun k q => ct_b (h _ ⟨b, rfl, q⟩)
theorem et_yes : ET C tYes ε L true L := fun k q => ct_yes q
theorem et_not {b : Bool} (h : ET C tt ε L b L1) : ET C (tNot tt) ε L (!b) L1 := fun k q => ct_not (h _ q)
theorem et_and {a b : Bool} (h : ET C tt ε L a L) (h2 : a = true → ET C tu ε L b L) : ET C (tAnd tt tu) ε L (a && b) L := fun k q => ct_and (h _ (by
  cases a with
  | true => exact h2 rfl _ q
  | false => exact q))
theorem et_or {a b : Bool} (h : ET C tt ε L a L) (h2 : a = false → ET C tu ε L b L) : ET C (tOr tt tu) ε L (a || b) L := fun k q => ct_or (h _ (by
  cases a with
  | true => exact q
  | false => exact h2 rfl _ q))
theorem ev_and {a b : Bool} (h : EV C ta ε L (.dat (.bool a)) L) (h2 : a = true → EV C tb ε L (.dat (.bool b)) L) : EV C (tAndV ta tb) ε L (.dat (.bool (a && b))) L := fun k q => cp_andV (h _ ⟨a, rfl, by
  cases a with
  | true => exact h2 rfl _ q
  | false => exact q⟩)
theorem ev_or {a b : Bool} (h : EV C ta ε L (.dat (.bool a)) L) (h2 : a = false → EV C tb ε L (.dat (.bool b)) L) : EV C (tOrV ta tb) ε L (.dat (.bool (a || b))) L := fun k q => cp_orV (h _ ⟨a, rfl, by
  cases a with
  | true => exact q
  | false => exact h2 rfl _ q⟩)
theorem ev_not {b : Bool} (h : EV C ta ε L (.dat (.bool b)) L1) : EV C (tNotV ta) ε L (.dat (.bool (!b))) L1 := fun k q => cp_notV (h _ ⟨b, rfl, q⟩)
theorem ev_if {α : Type} {e : α → PyData} {b : Bool} {v w : α} (h : ET C tt ε L b L) (h1 : b = true → EV C ta ε L (.dat (e v)) L) (h2 : b = false → EV C tb ε L (.dat (e w)) L) : EV C (tIf tt ta tb) ε L (.dat (e (bif b then v else w))) L := fun k q => cp_if (h _ (by
  cases b with
  | true => exact h1 rfl _ q
  | false => exact h2 rfl _ q))
/-- a chain of two comparisons -/
theorem ev_chain {r r' : R2} {a b : Bool} (h1 : EV C ta ε L x L) (h2 : EV C tb ε L y L) (h3 : ∀ k, k (.dat (.bool a)) L → OD C r x y L k) (h4 : a = true → EV C tc ε L z L) (h5 : ∀ k, k (.dat (.bool b)) L → OD C r' y z L k) :
    EV C (tChain r r' ta tb tc) ε L (.dat (.bool (a && b))) L := fun k q => cp_chain (h1 _ (h2 _ (h3 _ ⟨a, rfl, by
  cases a with
  | true => exact h4 rfl _ (h5 _ q)
  | false => exact q⟩)))
/-! calls -/
def AccR {ρ : Type} (ca : Nat → Addr) (o : Res ρ) (k : ρ → Prop) (x : Addr → Prop) : Prop := match o with
  | .bad => False
  | .ok r => k r
  | .ex c => x (ca c)
theorem accR_ok {ρ : Type} [Inhabited ρ] {ca : Nat → Addr} {o : Res ρ} {k : ρ → Prop} {x : Addr → Prop} (h : o.isOk = true) (q : k o.get) : AccR ca o k x := by
  rw [Res.eq_ok h]
  exact q
theorem ev_call {d : DSp} {rs : List Rs} (h1 : EA C tA ε L rs L1) (h2 : ∀ k : Rs → Led → Prop, k z L2 → d rs L1 k fun _ _ => False) : EV C (tCall (lift C.K d) [] E0 tA) ε L z L2 := fun k q => cp_call (h1 _ (h2 _ q))
theorem ev_callS {d : DSp} {rs : List Rs} (h1 : EA C tA ε L rs L1) (h2 : ∀ k : Rs → Led → Prop, k z L2 → d rs L1 k fun c L2 => C.kx c ε L2) : EV C (tCallS (lift C.K d) (WE C.W) tA) ε L z L2 := fun k q => cp_callS (h1 _ (h2 _ q))
/-! targets, sources -/
theorem eg_name {i : Nat} : EG C (gName i) r ε L (ε.set i (some r)) := fun k q => cg_name q
theorem eg_tup2 {i j : Nat} {a b : PyData} (hK : C.K = K := by rfl) : EG C (gTup K 2 (gCons (gName i) (gCons (gName j) gNil))) (.dat (.tuple [a, b])) ε L ((ε.set i (some (.dat a))).set j (some (.dat b))) := fun k q => cg_tup2 q hK
theorem eg_tup3 {i j m : Nat} {a b c : PyData} (hK : C.K = K := by rfl) : EG C (gTup K 3 (gCons (gName i) (gCons (gName j) (gCons (gName m) gNil)))) (.dat (.tuple [a, b, c])) ε L (((ε.set i (some (.dat a))).set j (some (.dat b))).set m (some (.dat c))) := fun k q => cg_tup3 q hK
theorem ei_sq {ds : List PyData} (h : EV C te ε L r L1) (s : SeqOf r ds) (hK : C.K = K := by rfl) : EI C (iSq K te) ε L ds L1 := fun k q => ci_sq (h _ ⟨ds, s, q⟩) hK
def enumI {α : Type} (xs : List α) : List (Int × α) := xs.zipIdx.map fun p => ((p.2 : Int), p.1)
theorem enum_map {α : Type} (e : α → PyData) (xs : List α) : enumD (xs.map e) = (enumI xs).map (eP2 eI e) := by
  unfold enumD enumI
  rw [List.zipIdx_map, List.map_map, List.map_map]
  rfl
theorem zip_map {α β : Type} (e : α → PyData) (e2 : β → PyData) (xs : List α) (ys : List β) : zipD (xs.map e) (ys.map e2) = (xs.zip ys).map (eP2 e e2) := by
  unfold zipD
  rw [List.zipWith_map, List.zip_eq_zipWith, List.map_zipWith]
theorem ei_en {α : Type} {e : α → PyData} {xs : List α} {ds : List PyData} (h : EV C te ε L r L1) (s : SeqOf r ds) (ed : ds = xs.map e) (hK : C.K = K := by rfl) : EI C (iEn K (tCons te tNil)) ε L ((enumI xs).map (eP2 eI e)) L1 := fun k q =>
  ci_en (ca_cons (h _ (ca_nil ⟨r, ds, rfl, s, by rw [ed, enum_map]; exact q⟩))) hK
theorem ei_zp {α β : Type} {e : α → PyData} {e2 : β → PyData} {xs : List α} {ys : List β} {ds es : List PyData} (h : EV C ta ε L x L1) (h2 : EV C tb ε L1 y L2) (s : SeqOf x ds) (s2 : SeqOf y es) (ed : ds = xs.map e) (ed2 : es = ys.map e2) (hK : C.K = K := by rfl) :
    EI C (iZp K (tCons ta (tCons tb tNil))) ε L ((xs.zip ys).map (eP2 e e2)) L2 := fun k q =>
  ci_zp (ca_cons (h _ (ca_cons (h2 _ (ca_nil ⟨x, y, ds, es, rfl, s, s2, by rw [ed, ed2, zip_map]; exact q⟩))))) hK
def rngI (lo hi : Int) : List Int := (List.range (hi - lo).toNat).map fun i : Nat => lo + (i : Int)
def rngD (hi lo : Int) : List Int := (List.range (hi - lo).toNat).map fun i : Nat => hi + (i : Int) * (-1)
theorem rng_map (lo hi : Int) : rng lo (hi - lo).toNat = (rngI lo hi).map eI := by
  unfold rng rngI
  rw [List.map_map]
  rfl
abbrev bnd (n : Int) : Prop := -(2 ^ 62) ≤ n ∧ n < 2 ^ 62
theorem ei_range1 {n : Int} (h : EV C te ε L (.dat (.int n)) L1) (hb : bnd n) : EI C (iRng1 (tCons te tNil)) ε L ((rngI 0 n).map eI) L1 := fun k q =>
  ci_range1 (ca_cons (h _ (ca_nil ⟨n, rfl, hb, by rw [← rng_map, Int.sub_zero] at q; exact q⟩)))
theorem ei_range2 {n m : Int} (h : EV C ta ε L (.dat (.int n)) L1) (h2 : EV C tb ε L1 (.dat (.int m)) L2) (hb : bnd n) (hb2 : bnd m) : EI C (iRng2 (tCons ta (tCons tb tNil))) ε L ((rngI n m).map eI) L2 := fun k q =>
  ci_range2 (ca_cons (h _ (ca_cons (h2 _ (ca_nil ⟨n, m, rfl, ⟨hb.1, hb.2, hb2.1, hb2.2⟩, by rw [← rng_map] at q; exact q⟩)))))
theorem ei_rangeD {n m : Int} (h : EV C ta ε L (.dat (.int n)) L1) (h2 : EV C tb ε L1 (.dat (.int m)) L2) (h3 : EV C tc ε L2 (.dat (.int (-1))) L3) (hb : bnd n) (hb2 : bnd m) : EI C (iRng3 (tCons ta (tCons tb (tCons tc tNil)))) ε L ((rngD n m).map eI) L3 := fun k q =>
  ci_rangeD (ca_cons (h _ (ca_cons (h2 _ (ca_cons (h3 _ (ca_nil ⟨n, m, rfl, ⟨hb.1, hb.2, hb2.1, hb2.2⟩, by
    unfold rngD at q
    rw [List.map_map] at q
    exact q⟩)))))))
/-! comprehensions -/
variable {wi wi1 : TI} {g g1 : TG} {vs vs1 : List Nat}
theorem ev_lc {α β : Type} {g0 : α → PyData} {e : β → PyData} {xs : List α} {t : α → Bool} {f : α → β} (hi : EI C wi ε L (xs.map g0) L1) (hz : xs.length < sizeLine)
    (hb : ∀ x ∈ xs, ∀ acc p, p ∉ L1.ks → ∃ ε2, EG (C0 C.K) g (.dat (g0 x)) (wipeE ε vs) (plus L1 p acc) ε2 ∧ ET (C0 C.K) tt ε2 (plus L1 p acc) (t x) (plus L1 p acc) ∧ (t x = true → EV (C0 C.K) te ε2 (plus L1 p acc) (.dat (e (f x))) (plus L1 p acc)))
    (ho : GOwn g vs) : EV C (tLc wi g tt te vs) ε L (.dat (eL e ((xs.filter t).map f))) L1 := fun k q => by
  refine cp_lcM α (hi _ ⟨by rw [List.length_map]; exact hz, xs, g0, fun x => if t x = true then some (e (f x)) else none, rfl, fun x hx acc p hp => ?_, ?_⟩) ho
  · obtain ⟨ε2, h1, h2, h3⟩ := hb x hx acc p hp
    refine h1 _ ⟨rfl, h2 _ ⟨rfl, ?_⟩⟩
    cases ht : t x with
    | true => exact h3 ht _ ⟨rfl, _, rfl, if_pos ht⟩
    | false => exact if_neg (by rw [ht]; decide)
  · rw [fm_if]
    rw [show eL e ((xs.filter t).map f) = PyData.list ((xs.filter t).map fun x => e (f x)) by unfold eL; rw [List.map_map]; rfl] at q
    exact q
theorem ev_lcA {α β : Type} {g0 : α → PyData} {e : β → PyData} {xs : List α} {f : α → β} (hi : EI C wi ε L (xs.map g0) L1) (hz : xs.length < sizeLine)
    (hb : ∀ x ∈ xs, ∀ acc p, p ∉ L1.ks → ∃ ε2, EG (C0 C.K) g (.dat (g0 x)) (wipeE ε vs) (plus L1 p acc) ε2 ∧ EV (C0 C.K) te ε2 (plus L1 p acc) (.dat (e (f x))) (plus L1 p acc))
    (ho : GOwn g vs) : EV C (tLc wi g tYes te vs) ε L (.dat (eL e (xs.map f))) L1 := by
  have q := ev_lc (t := fun _ => true) hi hz (fun x hx acc p hp => let ⟨a, b, c⟩ := hb x hx acc p hp; ⟨a, b, et_yes, fun _ => c⟩) ho
  rw [List.filter_eq_self.mpr fun _ _ => rfl] at q
  exact q
theorem fm_filter {α β : Type} (t : α → Bool) (f : α → β) (e : β → PyData) (l : List α) : l.filterMap (fun x => if t x = true then some (e (f x)) else none) = ((l.filter t).map f).map e := by
  rw [fm_if, List.map_map]
  rfl
/-- two for, each without a test but the second's -/
theorem ev_lc2 {α γ β : Type} {g0 : α → PyData} {g2 : γ → PyData} {e : β → PyData} {xs : List α} {ys : α → List γ} {t : α → γ → Bool} {f : α → γ → β} {tt1 : TT} (hi : EI C wi ε L (xs.map g0) L1)
    (hz : (xs.flatMap fun x => ((ys x).filter (t x)).map (f x)).length < sizeLine)
    (hb : ∀ x ∈ xs, ∀ acc p, p ∉ L1.ks → ∃ ε2, EG (C0 C.K) g (.dat (g0 x)) (wipeE ε vs) (plus L1 p acc) ε2 ∧ EI (C0 C.K) wi1 ε2 (plus L1 p acc) ((ys x).map g2) (plus L1 p acc) ∧
      ∀ y ∈ ys x, ∀ acc, ∃ ε3, EG (C0 C.K) g1 (.dat (g2 y)) (wipeE ε2 vs1) (plus L1 p acc) ε3 ∧ ET (C0 C.K) tt1 ε3 (plus L1 p acc) (t x y) (plus L1 p acc) ∧ (t x y = true → EV (C0 C.K) te ε3 (plus L1 p acc) (.dat (e (f x y))) (plus L1 p acc)))
    (ho : GOwn g vs) (ho1 : GOwn g1 vs1) : EV C (tLc2 wi g tYes wi1 g1 tt1 te vs vs1) ε L (.dat (eL e (xs.flatMap fun x => ((ys x).filter (t x)).map (f x)))) L1 := fun k q => by
  refine cp_lc2 (hi _ ⟨fun i acc => acc = ((xs.take i).flatMap fun x => ((ys x).filter (t x)).map (f x)).map e, rfl, fun i d acc0 p hd hI hp => ?_, fun acc hI => ?_⟩) ho ho1
  · obtain ⟨x, hx, rfl⟩ := map_get hd
    have hm : x ∈ xs := List.mem_of_getElem? hx
    have ht : xs.take (i + 1) = xs.take i ++ [x] := by rw [List.take_add_one, hx] <;> rfl
    obtain ⟨ε2, h1, h2, h3⟩ := hb x hm acc0 p hp
    have hI : acc0 = ((xs.take i).flatMap fun x => ((ys x).filter (t x)).map (f x)).map e := hI
    have hsz : acc0.length + (((ys x).filter (t x)).map (f x)).length < sizeLine := by
      have e2 : (xs.take i ++ [x] ++ xs.drop (i + 1)) = xs := by rw [← ht]; exact List.take_append_drop _ _
      have e3 : (xs.flatMap fun x => ((ys x).filter (t x)).map (f x)).length = acc0.length + (((ys x).filter (t x)).map (f x)).length + ((xs.drop (i + 1)).flatMap fun x => ((ys x).filter (t x)).map (f x)).length := by
        rw [hI, List.length_map]
        conv => lhs; rw [← e2]
        rw [List.flatMap_append, List.flatMap_append, List.length_append, List.length_append, List.flatMap_singleton]
      omega
    refine h1 _ ⟨rfl, ct_yes ⟨rfl, ?_⟩⟩
    rw [if_pos rfl]
    refine h2 _ ⟨rfl, fun j acc => acc = acc0 ++ (((((ys x).take j).filter (t x)).map (f x))).map e, by simp, fun j d2 acc hd2 hJ => ?_, fun acc hJ => ?_⟩
    · obtain ⟨y, hy, rfl⟩ := map_get hd2
      have hmy : y ∈ ys x := List.mem_of_getElem? hy
      have ht2 : (ys x).take (j + 1) = (ys x).take j ++ [y] := by rw [List.take_add_one, hy] <;> rfl
      obtain ⟨ε3, q1, q2, q3⟩ := h3 y hmy acc
      have hJ : acc = acc0 ++ (((((ys x).take j).filter (t x)).map (f x))).map e := hJ
      refine q1 _ ⟨rfl, q2 _ ⟨rfl, ?_⟩⟩
      cases hty : t x y with
      | true =>
        rw [if_pos rfl]
        refine ⟨?_, q3 hty _ ⟨rfl, _, rfl, ?_⟩⟩
        · have := (((List.take_sublist j (ys x)).filter (t x)).map (f x)).length_le
          rw [hJ, List.length_append, List.length_map]
          omega
        · show acc ++ [e (f x y)] = acc0 ++ (((((ys x).take (j + 1)).filter (t x)).map (f x))).map e
          rw [ht2, List.filter_append, List.filter_cons, hty, if_pos rfl, hJ, List.map_append, List.map_append, List.append_assoc]
          rfl
      | false =>
        rw [if_neg (by decide)]
        show acc = acc0 ++ (((((ys x).take (j + 1)).filter (t x)).map (f x))).map e
        rw [ht2, List.filter_append, List.filter_cons, hty, if_neg (by decide), hJ, List.map_append, List.map_append]
        simp
    · have hJ : acc = acc0 ++ (((((ys x).take ((ys x).map g2).length).filter (t x)).map (f x))).map e := hJ
      show acc = ((xs.take (i + 1)).flatMap fun x => ((ys x).filter (t x)).map (f x)).map e
      rw [hJ, List.length_map, List.take_length, ht, List.flatMap_append, List.map_append, ← hI, List.flatMap_singleton]
  · have hI : acc = ((xs.take (xs.map g0).length).flatMap fun x => ((ys x).filter (t x)).map (f x)).map e := hI
    rw [hI, List.length_map, List.take_length]
    exact q
/-- written on later -/
theorem ew_lcA {α β : Type} {g0 : α → PyData} {e : β → PyData} {xs : List α} {f : α → β} (hi : EI C wi ε L (xs.map g0) L1) (hz : xs.length < sizeLine)
    (hb : ∀ x ∈ xs, ∀ acc p, p ∉ L1.ks → ∃ ε2, EG (C0 C.K) g (.dat (g0 x)) (wipeE ε vs) (plus L1 p acc) ε2 ∧ EV (C0 C.K) te ε2 (plus L1 p acc) (.dat (e (f x))) (plus L1 p acc))
    (ho : GOwn g vs) : EW C (tLc wi g tYes te vs) ε L ((xs.map f).map e) L1 := fun k q => by
  refine cp_lcMO α (hi _ ⟨by rw [List.length_map]; exact hz, xs, g0, fun x => some (e (f x)), rfl, fun x hx acc p hp => ?_, fun p hp => ?_⟩) ho
  · obtain ⟨ε2, h1, h3⟩ := hb x hx acc p hp
    exact h1 _ ⟨rfl, ct_yes ⟨rfl, by rw [if_pos rfl]; exact h3 _ ⟨rfl, _, rfl, rfl⟩⟩⟩
  · have e2 : xs.filterMap (fun x => some (e (f x))) = (xs.map f).map e := by
      rw [List.map_map, ← List.filterMap_eq_map]
      rfl
    rw [e2]
    exact q p hp
end
end Y

set_option Elab.async false
set_option linter.all false
set_option maxRecDepth 100000
set_option maxHeartbeats 2000000
namespace Y
open PySem PySem.Spec PyProof.Rows L2 Z
/-! ### blocks -/
/-- what is fixed within a def's body: its answers as values (with the ledger), the ledger of its errors -/
structure Fx (ρ : Type) where
  C : Cz
  ca : Nat → Addr
  R : ρ → Rs → Led → Prop
  X : Ev → Led → Prop
section
variable {σ τ l ρ α β : Type}
abbrev NR (σ : Type) := σ → Ev → Led → Prop
def Acc (F : Fx ρ) (N : NR σ) (M : NR l) (P : Post) : Ctl σ l ρ → Prop
  | .bad => False
  | .nx s => ∀ ε L, N s ε L → P.nx ε L
  | .ct s => ∀ ε L, M s ε L → P.ct ε L
  | .bk s => ∀ ε L, M s ε L → P.bk ε L
  | .rt r => ∀ v L, F.R r v L → P.rt v L
  | .ex c => ∀ ε L, F.X ε L → F.C.kx (F.ca c) ε L
def HV (F : Fx ρ) (N : NR σ) (M : NR l) (t : TS) (ε : Ev) (L : Led) (o : Ctl σ l ρ) : Prop := ∀ P : Post, Acc F N M P o → HS F.C t ε L P
variable {F : Fx ρ} {N : NR σ} {M : NR l} {t u : TS} {ε ε' : Ev} {L L1 L2 : Led} {te : TE} {tt : TT} {r : Rs} {o o1 o2 : Ctl σ l ρ}
theorem hv_one (h : HV F N M (tSeq t tNext) ε L o) : HV F N M t ε L o := h
theorem hv_nx {s : σ} (h : N s ε L) : HV F N M tNext ε L (.nx s) := fun P A => hs_next (A ε L h)
theorem hv_ct {s : l} (h : M s ε L) : HV F N M tCont ε L (.ct s) := fun P A => hs_cont (A ε L h)
theorem hv_bk {s : l} (h : M s ε L) : HV F N M tBreak ε L (.bk s) := fun P A => hs_brk (A ε L h)
theorem hv_ret {v : ρ} (h : EV F.C te ε L r L1) (hr : F.R v r L1) : HV F N M (tRet te) ε L (.rt v) := fun P A => hs_ret (h _ (A r L1 hr))
theorem hv_retN {v : ρ} (hr : F.R v (.dat .none) L) : HV F N M tRetN ε L (.rt v) := fun P A => hs_retN (A _ L hr)
theorem hv_end {v : ρ} (hr : ∀ P : Post, Acc F N M P (.rt v) → P.nx ε L) : HV F N M tNext ε L (.rt v) := fun P A => hs_next (hr P A)
theorem hv_raise {c : Nat} {a : Addr} (e : a = F.ca c) (h : F.X ε L) : HV F N M (fun _ σ H => F.C.W (.ref a) none σ H) ε L (.ex c) := fun P A => hs_raise (by rw [e]; exact A ε L h)
theorem hv_grd {p : Prop} (h : p → HV F N M t ε L o) : HV F N M t ε L (grd p o) := fun P A => by
  unfold grd at A
  by_cases hp : p
  · rw [if_pos hp] at A
    exact h hp P A
  · rw [if_neg hp] at A
    exact A.elim
theorem hv_asg {i : Nat} (h : EV F.C te ε L r L1) (h2 : HV F N M u (ε.set i (some r)) L1 o) : HV F N M (tSeq (tAsg te (gName i)) u) ε L o := fun P A => hs_seq (hs_asg (h _ (h2 P A)))
theorem hv_set {i : Nat} {v : α} {e : α → PyData} {q : α → Ctl σ l ρ} (h : EV F.C te ε L (.dat (e v)) L1) (h2 : ∀ x, HV F N M u (ε.set i (some (.dat (e x)))) L1 (q x)) : HV F N M (tSeq (tAsg te (gName i)) u) ε L (lt v q) := hv_asg h (h2 v)
theorem hv_setG {g : TG} {v : α} {e : α → PyData} {q : α → Ctl σ l ρ} {ev : α → Ev} (h : EV F.C te ε L (.dat (e v)) L1) (hg : ∀ x, EG F.C g (.dat (e x)) ε L1 (ev x)) (h2 : ∀ x, HV F N M u (ev x) L1 (q x)) : HV F N M (tSeq (tAsg te g) u) ε L (lt v q) := fun P A =>
  hs_seq (hs_asgG (h _ (hg v _ (h2 v P A))))
/-- a new list that is written on -/
theorem hv_own {i : Nat} {v : List α} {e : α → PyData} {q : List α → Ctl σ l ρ} (h : EW F.C te ε L (v.map e) L1) (h2 : ∀ p x, p ∉ L1.ks → HV F N M u (ε.set i (some (.own p))) (plus L1 p (x.map e)) (q x)) : HV F N M (tSeq (tAsg te (gName i)) u) ε L (lt v q) := fun P A =>
  hs_seq (hs_asg (h _ fun p hp => h2 p v hp P A))
theorem hv_drop (h : EV F.C te ε L r L1) (h2 : HV F N M u ε L1 o) : HV F N M (tSeq (tDrop te) u) ε L o := fun P A => hs_seq (hs_drop (h _ (h2 P A)))
/-- two stores at once -/
theorem hv_par {i j : Nat} {a b : PyData} {tA : TA} (h : EA F.C tA ε L [.dat a, .dat b] L1) (h2 : HV F N M u ((ε.set i (some (.dat a))).set j (some (.dat b))) L1 o) : HV F N M (tSeq (tPar i j tA) u) ε L o := fun P A =>
  hs_seq (hs_par (h _ ⟨_, _, rfl, h2 P A⟩))
theorem hv_par3 {i j k : Nat} {a b c : PyData} {tA : TA} (h : EA F.C tA ε L [.dat a, .dat b, .dat c] L1) (h2 : HV F N M u (((ε.set i (some (.dat a))).set j (some (.dat b))).set k (some (.dat c))) L1 o) : HV F N M (tSeq (tPar3 i j k tA) u) ε L o := fun P A =>
  hs_seq (hs_par3 (h _ ⟨_, _, _, rfl, h2 P A⟩))
theorem hv_aug {i : Nat} {ti : TIp} {x z : Rs} {y : Rs} (hx : ε[i]? = some (some x)) (h : EV F.C te ε L y L1) (ho : ∀ k, k z L2 → OD F.C ti x y L1 k) (h2 : HV F N M u (ε.set i (some z)) L2 o) : HV F N M (tSeq (tAug i te ti) u) ε L o := fun P A =>
  hs_seq (hs_aug hx (h _ (ho _ (h2 P A))))
theorem hv_augS {i : Nat} {ti : TIp} {x : Rs} {y : Rs} {v : α} {e : α → PyData} {q : α → Ctl σ l ρ} (hx : ε[i]? = some (some x)) (h : EV F.C te ε L y L1) (ho : ∀ k, k (.dat (e v)) L2 → OD F.C ti x y L1 k) (h2 : ∀ w, HV F N M u (ε.set i (some (.dat (e w)))) L2 (q w)) : HV F N M (tSeq (tAug i te ti) u) ε L (lt v q) := hv_aug hx h ho (h2 v)
/-- a name for a plain value -/
theorem hv_lt {v : α} {q : α → Ctl σ l ρ} (h : ∀ x, HV F N M t ε L (q x)) : HV F N M t ε L (lt v q) := h v
/-! if -/
theorem hv_ifL {b : Bool} (h : ET F.C tt ε L b L1) (h1 : b = true → HV F N M t ε L1 o1) (h2 : b = false → HV F N M u ε L1 o2) : HV F N M (tIfS tt t u) ε L (bif b then o1 else o2) := fun P A => hs_if (h _ (by
  cases b with
  | true => exact h1 rfl P A
  | false => exact h2 rfl P A))
/-- the first way leads out -/
theorem hv_if1 {b : Bool} (h : ET F.C tt ε L b L1) (h1 : b = true → HV F (fun _ _ _ => False) M t ε L1 o1) (h2 : b = false → HV F N M u ε L1 o2) : HV F N M (tSeq (tIfS tt t tNext) u) ε L (bif b then o1 else o2) := fun P A => hs_seq (hs_if (h _ (by
  cases b with
  | true =>
    refine h1 rfl _ ?_
    show Acc F (fun _ _ _ => False) M _ o1
    have A : Acc F N M P o1 := A
    cases o1 with
    | nx s => exact fun _ _ f => f.elim
    | bad => exact A
    | ct s => exact A
    | bk s => exact A
    | rt r => exact A
    | ex c => exact A
  | false => exact hs_next (h2 rfl P A))))
theorem acc_bind {J : NR τ} {P : Post} {o : Ctl τ l ρ} {q : τ → Ctl σ l ρ} (A : Acc F N M P (o.bind q)) (h : ∀ s ε' L', J s ε' L' → HV F N M u ε' L' (q s)) : Acc F J M { P with nx := fun e l => HS F.C u e l P } o := by
  cases o with
  | nx s => exact fun ε' L' j => h s ε' L' j P A
  | bad => exact A
  | ct s => exact A
  | bk s => exact A
  | rt r => exact A
  | ex c => exact A
/-- a block, then another -/
theorem hv_bind (J : NR τ) {o : Ctl τ l ρ} {q : τ → Ctl σ l ρ} (h1 : HV F J M t ε L o) (h2 : ∀ s ε' L', J s ε' L' → HV F N M u ε' L' (q s)) : HV F N M (tSeq t u) ε L (o.bind q) := fun P A => hs_seq (h1 _ (acc_bind A h2))
/-! loops -/
theorem acc_for {J : NR σ} {P : Post} {f : α → σ → Ctl σ σ ρ} {xs : List α} {s : σ} (A : Acc F J M P (forC xs s f)) : ∀ {x r}, xs = x :: r → Acc F J J { P with nx := fun e l => ∃ s', J s' e l ∧ Acc F J M P (forC r s' f), ct := fun e l => ∃ s', J s' e l ∧ Acc F J M P (forC r s' f), bk := P.nx } (f x s) := by
  intro x r e
  subst e
  unfold forC at A
  cases hf : f x s with
  | bad => rw [hf] at A; exact A
  | nx s' => rw [hf] at A; exact fun ε' L' j => ⟨s', j, A⟩
  | ct s' => rw [hf] at A; exact fun ε' L' j => ⟨s', j, A⟩
  | bk s' => rw [hf] at A; exact A
  | rt r => rw [hf] at A; exact A
  | ex c => rw [hf] at A; exact A
theorem hv_for (J : NR σ) {wi : TI} {g : TG} {tb : TS} {xs : List α} {g0 : α → PyData} {s0 : σ} {f : α → σ → Ctl σ σ ρ} (hi : EI F.C wi ε L (xs.map g0) L1) (h0 : J s0 ε L1)
    (hb : ∀ x s ε' L', J s ε' L' → ∃ ε2, EG F.C g (.dat (g0 x)) ε' L' ε2 ∧ HV F J J tb ε2 L' (f x s)) : HV F J M (tFor wi g tb) ε L (forC xs s0 f) := fun P A => by
  refine hs_for (hi _ ⟨fun i ε' L' => ∃ s, J s ε' L' ∧ Acc F J M P (forC (xs.drop i) s f), ⟨s0, h0, A⟩, ?_, ?_⟩)
  · rintro i d ε' L' hd ⟨s, hj, hA⟩
    obtain ⟨x, hx, rfl⟩ := map_get hd
    obtain ⟨ε2, h1, h2⟩ := hb x s ε' L' hj
    have hl : i < xs.length := (List.getElem?_eq_some_iff.mp hx).1
    have ed : xs.drop i = x :: xs.drop (i + 1) := by
      rw [List.drop_eq_getElem_cons hl]
      congr 1
      have := List.getElem?_eq_getElem hl
      rw [this] at hx
      exact Option.some.inj hx
    exact h1 _ (h2 _ (acc_for hA ed))
  · rintro ε' L' ⟨s, hj, hA⟩
    rw [List.length_map, List.drop_length] at hA
    exact hA ε' L' hj
/-- a while loop's turn: the test, then the body, or out -/
def WH (F : Fx ρ) (J : NR σ) (tc : TT) (tb : TS) (ε : Ev) (L : Led) (o : Ctl σ σ ρ) : Prop := ∀ P : Post, Acc F J J P o → CT F.C tc ε L fun b L2 => if b = true then HS F.C tb ε L2 P else P.bk ε L2
theorem wh_grd {J : NR σ} {tc : TT} {tb : TS} {p : Prop} {o : Ctl σ σ ρ} (h : p → WH F J tc tb ε L o) : WH F J tc tb ε L (grd p o) := fun P A => by
  unfold grd at A
  by_cases hp : p
  · rw [if_pos hp] at A
    exact h hp P A
  · rw [if_neg hp] at A
    exact A.elim
theorem wh_if {J : NR σ} {tc : TT} {tb : TS} {b : Bool} {s : σ} {o : Ctl σ σ ρ} (h : ET F.C tc ε L b L) (hj : J s ε L) (h1 : b = true → HV F J J tb ε L o) : WH F J tc tb ε L (bif b then o else .bk s) := fun P A => h _ (by
  cases b with
  | true => exact h1 rfl P A
  | false => exact A ε L hj)
theorem least_of {G : Nat → Prop} (h : ∃ m, G m) : ∃ m, G m ∧ ∀ j, G j → m ≤ j := by
  obtain ⟨m, hm⟩ := h
  induction m using Nat.strongRecOn with
  | _ m ih =>
    by_cases h : ∃ j, j < m ∧ G j
    · obtain ⟨j, hj, hg⟩ := h
      exact ih j hj hg
    · exact ⟨m, hm, fun j hj => Nat.le_of_not_lt fun z => h ⟨j, z, hj⟩⟩
open Classical in
theorem hv_while (J : NR σ) {tc : TT} {tb : TS} {s0 : σ} {f : σ → Ctl σ σ ρ} {n : Nat} (h0 : J s0 ε L)
    (hb : ∀ s ε' L', J s ε' L' → WH F J tc tb ε' L' (f s)) : HV F J M (tWhile tc tb) ε L (whileC f n s0) := fun P A => by
  let G : Nat → Ev → Led → Prop := fun m ε' L' => ∃ s, J s ε' L' ∧ Acc F J M P (whileC f m s)
  let μ : Ev → Led → Nat := fun ε' L' => if h : ∃ m, G m ε' L' then Classical.choose (least_of h) else 0
  have μ_sp : ∀ {m ε' L'}, G m ε' L' → G (μ ε' L') ε' L' ∧ ∀ j, G j ε' L' → μ ε' L' ≤ j := fun {m ε' L'} h => by
    have e : μ ε' L' = Classical.choose (least_of (⟨m, h⟩ : ∃ m, G m ε' L')) := dif_pos ⟨m, h⟩
    rw [e]
    exact Classical.choose_spec (least_of (⟨m, h⟩ : ∃ m, G m ε' L'))
  have μ_le : ∀ {m ε' L'}, G m ε' L' → μ ε' L' ≤ m := fun h => (μ_sp h).2 _ h
  refine hs_while (fun ε' L' => ∃ m, G m ε' L') μ ⟨n, s0, h0, A⟩ ?_
  rintro ε' L' ⟨m, hm⟩
  obtain ⟨s, hj, hA⟩ := (μ_sp hm).1
  generalize hn : μ ε' L' = k at hA
  cases k with
  | zero => exact hA.elim
  | succ k =>
    refine hb s ε' L' hj { P with nx := fun e l => (∃ m, G m e l) ∧ μ e l < k + 1, ct := fun e l => (∃ m, G m e l) ∧ μ e l < k + 1, bk := P.nx } ?_
    unfold whileC at hA
    cases hf : f s with
    | bad => rw [hf] at hA; exact hA
    | nx s' => rw [hf] at hA; exact fun ε2 L2 j => ⟨⟨k, s', j, hA⟩, Nat.lt_succ_of_le (μ_le ⟨s', j, hA⟩)⟩
    | ct s' => rw [hf] at hA; exact fun ε2 L2 j => ⟨⟨k, s', j, hA⟩, Nat.lt_succ_of_le (μ_le ⟨s', j, hA⟩)⟩
    | bk s' => rw [hf] at hA; exact hA
    | rt r => rw [hf] at hA; exact hA
    | ex c => rw [hf] at hA; exact hA
end
/-! ### written lists -/
section
variable {σ τ l ρ α β : Type} {F : Fx ρ} {N : NR σ} {M : NR l} {t u : TS} {ε ε' : Ev} {L L1 L2 : Led} {te ti to : TE} {o : Ctl σ l ρ} {K : PySem.W.Frag} {C : Cz}
theorem up_plus_ne {M2 : Led} {p q : Addr} {A : List PyData} {m : Mo} (h : p ≠ q) : up (plus M2 q A) p m = plus (up M2 p m) q A := by
  unfold up plus
  rw [List.map_append]
  congr 1
  simp [Ne.symm h]
theorem out_plus {M2 : Led} {p q : Addr} {A : List PyData} (h : q ∉ (plus M2 p A).ks) : q ∉ M2.ks := fun z => h (keeps_own q z)
theorem ne_plus {M2 : Led} {p q : Addr} {A : List PyData} (h : q ∉ (plus M2 p A).ks) : p ≠ q := fun z => h (by rw [← z]; exact Led.key plus_mem)
theorem out_up {M2 : Led} {p q : Addr} {m : Mo} (h : q ∉ (up M2 p m).ks) : q ∉ M2.ks := by rw [up_ks] at h; exact h
theorem in_up {M2 : Led} {p q : Addr} {m : Mo} (h : q ∉ M2.ks) : q ∉ (up M2 p m).ks := by rw [up_ks]; exact h
/-- x.append(e) -/
theorem ev_append {i : Nat} {p : Addr} {ds : List PyData} {d : PyData} (hx : ε[i]? = some (some (.own p))) {d0 : List PyData} (hm0 : (p, .lst d0) ∈ L) (h : EV C te ε L (.dat d) L1) (hm : (p, .lst ds) ∈ L1) (hz : ds.length < sizeLine) (hK : C.K = K := by rfl) :
    EV C (tBM K "list" rAppend (tVar i) (tCons te tNil)) ε L (.dat .none) (up L1 p (.lst (ds ++ [d]))) := fun k q =>
  cp_bm (cp_var hx ⟨⟨_, hm0, rfl⟩, ca_cons (h _ (ca_nil (md_append hm hz q)))⟩) hK
theorem ev_extend {i : Nat} {p : Addr} {ds es : List PyData} (hx : ε[i]? = some (some (.own p))) {d0 : List PyData} (hm0 : (p, .lst d0) ∈ L) (h : EV C te ε L (.dat (.list es)) L1) (hm : (p, .lst ds) ∈ L1) (hz : ds.length + es.length ≤ sizeLine) (hK : C.K = K := by rfl) :
    EV C (tBM K "list" rExtend (tVar i) (tCons te tNil)) ε L (.dat .none) (up L1 p (.lst (ds ++ es))) := fun k q =>
  cp_bm (cp_var hx ⟨⟨_, hm0, rfl⟩, ca_cons (h _ (ca_nil (md_extend hm hz q)))⟩) hK
theorem ev_reverse {i : Nat} {p : Addr} {ds : List PyData} (hx : ε[i]? = some (some (.own p))) (hm : (p, .lst ds) ∈ L) (hK : C.K = K := by rfl) :
    EV C (tBM0 K "list" rReverse (tVar i)) ε L (.dat .none) (up L p (.lst ds.reverse)) := fun k q => cp_bm0 (cp_var hx ⟨⟨_, hm, rfl⟩, md_reverse hm q⟩) hK
theorem ev_pop {i : Nat} {p : Addr} {ds : List PyData} {d : PyData} (hx : ε[i]? = some (some (.own p))) (hm : (p, .lst ds) ∈ L) (e : ds[ds.length - 1]? = some d) (hK : C.K = K := by rfl) :
    EV C (tBM0 K "list" rPop (tVar i)) ε L (.dat d) (up L p (.lst ds.dropLast)) := fun k q => cp_bm0 (cp_var hx ⟨⟨_, hm, rfl⟩, md_pop hm e q⟩) hK
/-- behind a write to an owned list: its new content by name -/
theorem hv_wr {p : Addr} {v : List α} {e : α → PyData} {q : List α → Ctl σ l ρ} {Lf : List α → Led} {r : Rs} (h : EV F.C te ε L r L1) (hL : L1 = Lf v) (h2 : ∀ x, HV F N M u ε (Lf x) (q x)) : HV F N M (tSeq (tDrop te) u) ε L (lt v q) := hv_drop h (by rw [hL]; exact h2 v)
/-- xs[i] = e -/
theorem hv_setL {p : Addr} {v : List α} {e : α → PyData} {q : List α → Ctl σ l ρ} {Lf : List α → Led} {ds : List PyData} {d : PyData} {i : Int} {j : Nat} (h : EV F.C te ε L (.dat d) L1) (ho : EV F.C to ε L1 (.own p) L1) (hi : EV F.C ti ε L1 (.dat (.int i)) L1) (hm : (p, .lst ds) ∈ L1) (hj : ixN ds.length i = some j)
    (hL : up L1 p (.lst (ds.set j d)) = Lf v) (h2 : ∀ x, HV F N M u ε (Lf x) (q x)) : HV F N M (tSeq (tAsg te (gSub to ti rSetL)) u) ε L (lt v q) := fun P A =>
  hs_seq (hs_setL (h _ ⟨d, rfl, ho _ ⟨p, rfl, hi _ ⟨ds, i, j, rfl, hm, hj, by rw [hL]; exact h2 v P A⟩⟩⟩))
/-- a written list is data from now on -/
theorem hv_frz {p : Addr} {ds : List PyData} (hp : p ∉ L.ks) (ho : ∀ a, some (Rs.own a) ∈ ε → a = p ∨ a ∈ L.ks) (h : HV F N M t (ε.map (frz p ds)) L o) : HV F N M t ε (plus L p ds) o := fun P A => hs_frz hp ho (h P A)
theorem hv_wk {M2 : Led} (w : Wk L M2) (e : EvWk L M2 ε ε') (h : HV F N M t ε' M2 o) : HV F N M t ε L o := fun P A => hs_wk w e (h P A)
end
/-! ### a def -/
section
variable {ρ : Type} {K : PySem.W.Frag}
/-- its answer is data, its ledger goes on as L2 -/
def RF (enc : ρ → PyData) (Lf : ρ → Led) : ρ → Rs → Led → Prop := fun r v L' => Wk L' (Lf r) ∧ RsWk L' (Lf r) v (.dat (enc r))
theorem rf_dat {enc : ρ → PyData} {Lf : ρ → Led} {r : ρ} {d : PyData} {L' : Led} (e : d = enc r) (w : Wk L' (Lf r)) : RF enc Lf r (.dat d) L' := by
  subst e
  exact ⟨w, .dat _⟩
theorem rf_own {enc : ρ → PyData} {Lf : ρ → Led} {r : ρ} {p : Addr} {ds : List PyData} {L' : Led} (e : enc r = .list ds) (m : (p, .lst ds) ∈ L') (h : p ∉ (Lf r).ks) (w : Wk L' (Lf r)) : RF enc Lf r (.own p) L' := by
  refine ⟨w, ?_⟩
  rw [e]
  exact .frz m h
theorem fin0 {ca : Nat → Addr} {enc : ρ → PyData} {Lf : ρ → Led} {L : Led} {k : Rs → Led → Prop} {x : Addr → Led → Prop} {t : TS} {ε : Ev} {o : Ctl Unit Unit ρ} {X : Ev → Led → Prop} (hk : ∀ r, Keeps L (Lf r)) (A : AccR ca (run o) (fun r => k (.dat (enc r)) (Lf r)) fun _ => False)
    (h : HV ⟨C0 K, ca, RF enc Lf, X⟩ (fun _ _ _ => False) (fun _ _ _ => False) t ε L o) : HS (C0 K) t ε L (dPost L k) := h _ (by
  cases o with
  | nx s => exact A.elim
  | bad => exact A.elim
  | ct s => exact A.elim
  | bk s => exact A.elim
  | rt r => exact fun v L' hr => ⟨Lf r, _, hr.1, hr.2, hk r, A⟩
  | ex c => exact A.elim)
theorem finX {ca : Nat → Addr} {enc : ρ → PyData} {Lf : ρ → Led} {L : Led} {k : Rs → Led → Prop} {x : Addr → Led → Prop} {t : TS} {ε : Ev} {o : Ctl Unit Unit ρ} {W : WX} (hk : ∀ r, Keeps L (Lf r)) (A : AccR ca (run o) (fun r => k (.dat (enc r)) (Lf r)) fun c => x c L)
    (h : HV ⟨⟨K, W, fun c _ L' => Keeps L L' ∧ x c L'⟩, ca, RF enc Lf, fun _ L' => L' = L⟩ (fun _ _ _ => False) (fun _ _ _ => False) t ε L o) : HS ⟨K, W, fun c _ L' => Keeps L L' ∧ x c L'⟩ t ε L (dPost L k) := h _ (by
  cases o with
  | nx s => exact A.elim
  | bad => exact A.elim
  | ct s => exact A.elim
  | bk s => exact A.elim
  | rt r => exact fun v L' hr => ⟨Lf r, _, hr.1, hr.2, hk r, A⟩
  | ex c =>
    intro ε' L' e
    have e' : L' = L := e
    subst e'
    exact ⟨Keeps.refl _, A⟩)
theorem fin0N {ca : Nat → Addr} {L : Led} {k : Rs → Led → Prop} {x : Addr → Led → Prop} {t : TS} {ε : Ev} {o : Ctl Unit Unit Unit} {X : Ev → Led → Prop} (A : AccR ca (runN o) (fun _ => k (.dat .none) L) fun _ => False)
    (h : HV ⟨C0 K, ca, RF eN fun _ => L, X⟩ (fun _ _ L' => Wk L' L) (fun _ _ _ => False) t ε L o) : HS (C0 K) t ε L (dPost L k) := h _ (by
  cases o with
  | nx s => exact fun ε' L' w => ⟨L, _, w, .dat _, Keeps.refl _, A⟩
  | bad => exact A.elim
  | ct s => exact A.elim
  | bk s => exact A.elim
  | rt r => exact fun v L' hr => ⟨L, _, hr.1, hr.2, Keeps.refl _, A⟩
  | ex c => exact A.elim)
theorem finXN {ca : Nat → Addr} {L : Led} {k : Rs → Led → Prop} {x : Addr → Led → Prop} {t : TS} {ε : Ev} {o : Ctl Unit Unit Unit} {W : WX} (A : AccR ca (runN o) (fun _ => k (.dat .none) L) fun c => x c L)
    (h : HV ⟨⟨K, W, fun c _ L' => Keeps L L' ∧ x c L'⟩, ca, RF eN fun _ => L, fun _ L' => L' = L⟩ (fun _ _ L' => Wk L' L) (fun _ _ _ => False) t ε L o) : HS ⟨K, W, fun c _ L' => Keeps L L' ∧ x c L'⟩ t ε L (dPost L k) := h _ (by
  cases o with
  | nx s => exact fun ε' L' w => ⟨L, _, w, .dat _, Keeps.refl _, A⟩
  | bad => exact A.elim
  | ct s => exact A.elim
  | bk s => exact A.elim
  | rt r => exact fun v L' hr => ⟨L, _, hr.1, hr.2, Keeps.refl _, A⟩
  | ex c =>
    intro ε' L' e
    have e' : L' = L := e
    subst e'
    exact ⟨Keeps.refl _, A⟩)
/-- a def that may raise, called where nothing may be raised -/
abbrev d0 (d : DSp) : DSp := fun rs L k _ => d rs L k fun _ _ => False
theorem has0 {P : Program} {w : World} {mg : Str → Option Value} {base : Heap} {k : Nat} {x : Str} {ps : List Str} {d : DSp} (h : HasX P w K mg base k x ps d) : Has P w K mg base k x ps (d0 d) := by
  obtain ⟨f, fd, a, b, c, F⟩ := h
  refine ⟨f, fd, a, b, c, ?_⟩
  have key : ∀ vs H Q E, lift K (d0 d) vs H Q E → lift K d vs H Q E0 := fun vs H Q E ⟨rs, L, k, x, o, l, hd, z, _⟩ => ⟨rs, L, k, _, o, l, hd, z, fun _ _ _ _ _ _ f => f.elim⟩
  refine ⟨fun vs H Q E q => F.len vs H Q E0 (key _ _ _ _ q), fun A outer s H args us vs Q E hr he hb hv hs => codeAny_mono (F.run A outer s H args us vs Q E0 hr he hb hv (key _ _ _ _ hs)) fun r s' hq => ?_⟩
  cases r with
  | ok fl => cases fl <;> exact hq
  | error e =>
    obtain ⟨_, _, _, _, _, _, _, _, _, _, _, _, f⟩ := hq
    exact f.elim
end
end Y

set_option Elab.async false
set_option linter.all false
set_option maxRecDepth 100000
set_option maxHeartbeats 2000000
namespace Y
open PySem PySem.Spec PyProof.Rows L2 Z
/-! ### types of values -/
structure Ty (α : Type) where
  e : α → PyData
  f : PyData → α
  p : PyData → Bool
  pe : ∀ a, p (e a) = true
  fe : ∀ a, f (e a) = a
  ok : ∀ d, p d = true → d = e (f d)
def tyI : Ty Int := ⟨eI, fun | .int i => i | _ => 0, fun | .int _ => true | _ => false, fun _ => rfl, fun _ => rfl, fun d h => by cases d <;> first | rfl | cases h⟩
def tyB : Ty Bool := ⟨eB, fun | .bool i => i | _ => false, fun | .bool _ => true | _ => false, fun _ => rfl, fun _ => rfl, fun d h => by cases d <;> first | rfl | cases h⟩
def tyS : Ty Str := ⟨eS, fun | .str i => i | _ => ⟨#[]⟩, fun | .str _ => true | _ => false, fun _ => rfl, fun _ => rfl, fun d h => by cases d <;> first | rfl | cases h⟩
def tyN : Ty Unit := ⟨eN, fun _ => (), isNoneD, fun _ => rfl, fun _ => rfl, fun d h => by cases d <;> first | rfl | cases h⟩
def tyD : Ty PyData := ⟨eD, fun d => d, fun _ => true, fun _ => rfl, fun _ => rfl, fun d h => rfl⟩
section
variable {α β γ : Type}
theorem tyMap (t : Ty α) : ∀ {ds : List PyData}, ds.all t.p = true → ds = (ds.map t.f).map t.e
  | [], _ => rfl
  | d :: r, h => by
    rw [List.all_cons, Bool.and_eq_true] at h
    rw [List.map_cons, List.map_cons, ← tyMap t h.2, ← t.ok d h.1]
theorem tyAll (t : Ty α) (xs : List α) : (xs.map t.e).all t.p = true := by
  rw [List.all_map, List.all_eq_true]
  exact fun x _ => t.pe x
theorem tyBack (t : Ty α) (xs : List α) : (xs.map t.e).map t.f = xs := by
  rw [List.map_map]
  exact (List.map_congr_left fun x _ => t.fe x).trans (List.map_id xs)
def tyL (t : Ty α) : Ty (List α) := ⟨eL t.e, fun | .list ds => ds.map t.f | _ => [], fun | .list ds => ds.all t.p | _ => false, fun xs => tyAll t xs, fun xs => tyBack t xs, fun d h => by
  cases d with
  | list ds => exact congrArg PyData.list (tyMap t h)
  | _ => cases h⟩
def tyT (t : Ty α) : Ty (List α) := ⟨eT t.e, fun | .tuple ds => ds.map t.f | _ => [], fun | .tuple ds => ds.all t.p | _ => false, fun xs => tyAll t xs, fun xs => tyBack t xs, fun d h => by
  cases d with
  | tuple ds => exact congrArg PyData.tuple (tyMap t h)
  | _ => cases h⟩
def tyP2 (a : Ty α) (b : Ty β) : Ty (α × β) := ⟨eP2 a.e b.e, fun | .tuple [x, y] => (a.f x, b.f y) | _ => (a.f .none, b.f .none), fun | .tuple [x, y] => a.p x && b.p y | _ => false, fun q => by
  show (a.p (a.e q.1) && b.p (b.e q.2)) = true
  rw [a.pe, b.pe]
  rfl, fun q => by
  show (a.f (a.e q.1), b.f (b.e q.2)) = q
  rw [a.fe, b.fe], fun d h => by
  match d, h with
  | .tuple [x, y], h =>
    rw [Bool.and_eq_true] at h
    show PyData.tuple [x, y] = .tuple [a.e (a.f x), b.e (b.f y)]
    rw [← a.ok x h.1, ← b.ok y h.2]⟩
end
/-! ### items, slices -/
section
variable {α β : Type}
def ix [Inhabited α] (xs : List α) (i : Int) : α := (atI xs i).getD default
abbrev okIx (xs : List α) (i : Int) : Prop := (atI xs i).isSome = true
theorem atI_map (e : α → β) (xs : List α) (i : Int) : atI (xs.map e) i = (atI xs i).map e := by
  unfold atI
  rw [List.length_map]
  cases ixN xs.length i with
  | none => rfl
  | some j => exact List.getElem?_map
theorem atI_ix [Inhabited α] {xs : List α} {i : Int} (h : okIx xs i) (e : α → β) : atI (xs.map e) i = some (e (ix xs i)) := by
  rw [atI_map]
  unfold ix
  have h : (atI xs i).isSome = true := h
  cases q : atI xs i with
  | none =>
    rw [q] at h
    cases h
  | some v => rfl
theorem cut_map (e : α → β) (xs : List α) (lo hi : Option Int) : Z.cutD (xs.map e) lo hi = (Z.cutD xs lo hi).map e := by
  unfold Z.cutD
  rw [List.length_map, List.map_take, List.map_drop]
variable {C : Cz} {L : Led} {k : Rs → Led → Prop} {K : PySem.W.Frag} {e : α → PyData}
theorem od_ixL [Inhabited α] {xs : List α} {i : Int} (h : okIx xs i) (q : k (.dat (e (ix xs i))) L) (hK : C.K = K := by rfl) : OD C (rIx K) (.dat (eL e xs)) (.dat (.int i)) L k := od_ix_lst (atI_ix h e) q hK
theorem od_ixT [Inhabited α] {xs : List α} {i : Int} (h : okIx xs i) (q : k (.dat (e (ix xs i))) L) (hK : C.K = K := by rfl) : OD C (rIx K) (.dat (eT e xs)) (.dat (.int i)) L k := od_ix_tup (atI_ix h e) q hK
theorem od_ixO [Inhabited α] {a : Addr} {xs : List α} {i : Int} (m : (a, .lst (xs.map e)) ∈ L) (h : okIx xs i) (q : k (.dat (e (ix xs i))) L) (hK : C.K = K := by rfl) : OD C (rIx K) (.own a) (.dat (.int i)) L k := od_ix_own m (atI_ix h e) q hK
/-- an item of a tuple of fixed form -/
theorem od_ixP {ds : List PyData} {i : Int} {d : PyData} (h : atI ds i = some d) (q : k (.dat d) L) (hK : C.K = K := by rfl) : OD C (rIx K) (.dat (.tuple ds)) (.dat (.int i)) L k := od_ix_tup h q hK
def ixS (z : Str) (i : Int) : Str := ⟨#[(atI z.cps.toList i).getD 0]⟩
theorem od_ixS {z : Str} {i : Int} (hz : z.length ≤ sizeLine) (h : okIx z.cps.toList i) (q : k (.dat (.str (ixS z i))) L) : OD C (rIx K) (.dat (.str z)) (.dat (.int i)) L k := by
  have h : (atI z.cps.toList i).isSome = true := h
  unfold ixS at q
  cases e : atI z.cps.toList i with
  | none =>
    rw [e] at h
    cases h
  | some c =>
    rw [e] at q
    exact od_ix_str hz e q
theorem sd_tupE {xs : List α} {lo hi : Option Int} (q : k (.dat (eT e (Z.cutD xs lo hi))) L) (hK : C.K = K := by rfl) : SD C (rSlZ K) (.dat (eT e xs)) lo hi L k := sd_tup (by rw [cut_map]; exact q) hK
theorem sd_lstE {xs : List α} {lo hi : Option Int} (q : k (.dat (eL e (Z.cutD xs lo hi))) L) : SD C (rSlZ K) (.dat (eL e xs)) lo hi L k := sd_lst (by rw [cut_map]; exact q)
def cutStr (z : Str) (lo hi : Option Int) : Str := ⟨(Z.cutD z.cps.toList lo hi).toArray⟩
theorem sd_strE {z : Str} {lo hi : Option Int} (hz : z.length ≤ sizeLine) (q : k (.dat (.str (cutStr z lo hi))) L) : SD C (rSlZ K) (.dat (.str z)) lo hi L k := sd_str hz q
theorem eo_none {ε : Ev} : EO C tNoPart ε L none L := fun k q => co_none q
theorem eo_some {ε : Ev} {te : TE} {i : Int} {L1 : Led} (h : EV C te ε L (.dat (.int i)) L1) : EO C (tPart te) ε L (some i) L1 := fun k q => co_some (h _ ⟨i, rfl, q⟩)
theorem ev_sl {ε : Ev} {te : TE} {tl th : TO} {r : V → Option Int → Option Int → Hp → VK → Prop} {x z : Rs} {lo hi : Option Int} {L1 L2 L3 : Led} (h : EV C te ε L x L1) (h1 : EO C tl ε L1 lo L2) (h2 : EO C th ε L2 hi L3) (h3 : ∀ k, k z L3 → SD C r x lo hi L3 k) : EV C (tSl r te tl th) ε L z L3 := fun k q =>
  cp_sl (h _ (h1 _ (h2 _ (h3 _ q))))
/-! ### sums, lengths -/
theorem od_addL {xs ys : List α} (h : xs.length + ys.length ≤ sizeLine) (q : k (.dat (eL e (xs ++ ys))) L) : OD C (rAddZ K) (.dat (eL e xs)) (.dat (eL e ys)) L k := od_add_lst (by rw [List.length_map, List.length_map]; exact h) (by rw [← List.map_append]; exact q)
theorem od_addT {xs ys : List α} (h : xs.length + ys.length ≤ sizeLine) (q : k (.dat (eT e (xs ++ ys))) L) (hK : C.K = K := by rfl) : OD C (rAddZ K) (.dat (eT e xs)) (.dat (eT e ys)) L k := od_add_tup (by rw [List.length_map, List.length_map]; exact h) (by rw [← List.map_append]; exact q) hK
theorem od_addW {xs ys : List α} (h : xs.length + ys.length ≤ sizeLine) (q : ∀ p, p ∉ L.ks → k (.own p) (plus L p ((xs ++ ys).map e))) : OD C (rAddZ K) (.dat (eL e xs)) (.dat (eL e ys)) L k := od_add_own (by rw [List.length_map, List.length_map]; exact h) (by rw [← List.map_append]; exact q)
theorem rep_map {xs : List α} (n : Nat) : (List.replicate n (xs.map e)).flatten = ((List.replicate n xs).flatten).map e := by
  rw [List.map_flatten, List.map_replicate]
theorem od_mulL {xs : List α} {n : Int} (h : -(2 ^ 63) ≤ n ∧ n < 2 ^ 63 ∧ xs.length * n.toNat ≤ sizeLine) (q : k (.dat (eL e (List.replicate n.toNat xs).flatten)) L) : OD C (rMulY K) (.dat (eL e xs)) (.dat (.int n)) L k := od_mulY_lst (by rw [List.length_map]; exact h) (by rw [rep_map]; exact q)
theorem od_mulT {xs : List α} {n : Int} (h : xs ≠ [] ∧ 2 ≤ n ∧ n ≤ 1000 ∧ xs.length ≤ 1000) (q : k (.dat (eT e (List.replicate n.toNat xs).flatten)) L) (hK : C.K = K := by rfl) : OD C (rMulY K) (.dat (eT e xs)) (.dat (.int n)) L k :=
  od_mul_tup ⟨fun z => h.1 (List.map_eq_nil_iff.mp z), h.2.1, h.2.2.1, by rw [List.length_map]; exact h.2.2.2⟩ (by rw [rep_map]; exact q) hK
theorem cd_lenL {xs : List α} (q : k (.dat (.int (xs.length : Int))) L) : CD C (rLenZ K) [.dat (eL e xs)] L k := cd_len_lst (by rw [List.length_map]; exact q)
theorem cd_lenT {xs : List α} (q : k (.dat (.int (xs.length : Int))) L) (hK : C.K = K := by rfl) : CD C (rLenZ K) [.dat (eT e xs)] L k := cd_len_tup (by rw [List.length_map]; exact q) hK
theorem cd_lenO {a : Addr} {xs : List α} (m : (a, .lst (xs.map e)) ∈ L) (q : k (.dat (.int (xs.length : Int))) L) : CD C (rLenZ K) [.own a] L k := cd_len_own m (by rw [List.length_map]; exact q)
/-- len of a value of unknown kind -/
def lenD : PyData → Int
  | .list ds => ds.length
  | .tuple ds => ds.length
  | .str z => z.length
  | _ => 0
def hasLen : PyData → Bool
  | .list _ => true
  | .tuple _ => true
  | .str z => decide (z.length ≤ sizeLine)
  | _ => false
theorem cd_lenD {d : PyData} (h : hasLen d = true) (q : k (.dat (.int (lenD d))) L) (hK : C.K = K := by rfl) : CD C (rLenZ K) [.dat d] L k := by
  cases d with
  | list ds => exact cd_len_lst q
  | tuple ds => exact cd_len_tup q hK
  | str z => exact cd_len_str (of_decide_eq_true h) q
  | _ => cases h
/-- what is walked over of it -/
def itemsD : PyData → List PyData
  | .list ds => ds
  | .tuple ds => ds
  | .str x => x.cps.toList.map sgn
  | _ => []
def isSeqD : PyData → Bool
  | .list _ => true
  | .tuple _ => true
  | .str _ => true
  | _ => false
theorem seqD {d : PyData} (h : isSeqD d = true) : SeqOf (.dat d) (itemsD d) := by
  cases d with
  | list ds => exact .lst ds
  | tuple ds => exact .tup ds
  | str z => exact .str z
  | _ => cases h
theorem seqL {xs : List α} : SeqOf (.dat (eL e xs)) (xs.map e) := .lst _
theorem seqT {xs : List α} : SeqOf (.dat (eT e xs)) (xs.map e) := .tup _
def sgns (z : Str) : List Str := z.cps.toList.map fun c => ⟨#[c]⟩
theorem seqS {z : Str} : SeqOf (.dat (.str z)) ((sgns z).map eS) := by
  have q := SeqOf.str z
  unfold sgns
  rw [List.map_map]
  exact q
theorem map_idD (ds : List PyData) : ds = ds.map eD := (List.map_id ds).symm
/-! all, any, sum, max, min -/
theorem cd_allE {xs : List α} {f : α → Bool} (q : k (.dat (.bool (xs.all f))) L) : CD C (rAll K) [.dat (eL eB (xs.map f))] L k := cd_all (by rw [List.all_map]; exact q)
theorem cd_anyE {xs : List α} {f : α → Bool} (q : k (.dat (.bool (xs.any f))) L) : CD C (rAny K) [.dat (eL eB (xs.map f))] L k := cd_any (by rw [List.any_map]; exact q)
def rMinZ (K : PySem.W.Frag) : List V → Hp → VK → Prop := fun vs H Q => rMin K vs H Q ∨ ∃ i j, vs = [.int i, .int j] ∧ Q (.int (if j < i then j else i)) H
theorem call_minZ {X : Cx} (hc : X.calm = true) : CallR X (.builtin "min") (rMinZ X.K) := (cr_min hc).or (call_min2 hc)
def minI : List Int → Int
  | [] => 0
  | a :: r => r.foldl min a
theorem foldl_min (r : List Int) : ∀ a : Int, (r.foldl min a = a ∨ r.foldl min a ∈ r) ∧ r.foldl min a ≤ a ∧ ∀ y ∈ r, r.foldl min a ≤ y := by
  induction r with
  | nil => exact fun a => ⟨.inl rfl, Int.le_refl a, fun y h => nomatch h⟩
  | cons b t ih =>
    intro a
    obtain ⟨h1, h2, h3⟩ := ih (min a b)
    rw [List.foldl_cons]
    refine ⟨?_, by omega, fun y hy => ?_⟩
    · rcases h1 with h1 | h1
      · by_cases hab : a ≤ b
        · rw [Int.min_eq_left hab] at h1 ⊢
          exact .inl h1
        · rw [Int.min_eq_right (by omega)] at h1 ⊢
          exact .inr (by rw [h1]; exact List.mem_cons_self)
      · exact .inr (List.mem_cons_of_mem _ h1)
    · rcases List.mem_cons.mp hy with e | e
      · subst e
        omega
      · exact h3 y e
theorem minI_mem {ns : List Int} (h : 0 < ns.length) : minI ns ∈ ns := by
  cases ns with
  | nil => simp at h
  | cons a r =>
    rcases (foldl_min r a).1 with e | e
    · show r.foldl min a ∈ a :: r
      rw [e]
      exact List.mem_cons_self
    · exact List.mem_cons_of_mem _ e
theorem minI_le {ns : List Int} {y : Int} (h : y ∈ ns) : minI ns ≤ y := by
  cases ns with
  | nil => cases h
  | cons a r =>
    rcases List.mem_cons.mp h with e | e
    · subst e
      exact (foldl_min r y).2.1
    · exact (foldl_min r a).2.2 y e
theorem cd_min_lst {ns : List Int} (h : 0 < ns.length) (q : k (.dat (.int (minI ns))) L) : CD C (rMinZ K) [.dat (.list (ns.map PyData.int))] L k := cd_or1 (cd_val (fun vs H l o => by
  obtain ⟨v, rfl, o1⟩ := rsAll_1 o
  cases o1 with
  | @lst p xs _ e ha =>
    have ex := ints_of ha
    subst ex
    refine ⟨.int (minI ns), .int _, fun Q f => ⟨p, ns, rfl, SqL.of (hid_sub _ _ e), h, fun m h1 h2 => ?_⟩⟩
    have em : m = minI ns := Int.le_antisymm (h2 _ (minI_mem h)) (minI_le h1)
    rw [em]
    exact f) q)
theorem cd_min2 {i j : Int} (q : k (.dat (.int (if j < i then j else i))) L) : CD C (rMinZ K) [.dat (.int i), .dat (.int j)] L k := cd_or2 (cd_val (fun vs H l o => by
  have e := rsAll_int2 o
  subst e
  exact ⟨.int _, .int _, fun Q f => ⟨i, j, rfl, f⟩⟩) q)
/-! tuple, list, sorted -/
theorem cd_tupL {xs : List α} (q : k (.dat (eT e xs)) L) : CD C (rTupZ K) [.dat (eL e xs)] L k := cd_tup_lst q
theorem cd_tupO {a : Addr} {xs : List α} (m : (a, .lst (xs.map e)) ∈ L) (q : k (.dat (eT e xs)) L) : CD C (rTupZ K) [.own a] L k := cd_tup_own m q
/-- ascending -/
def sortI (xs : List Int) : List Int := xs.mergeSort (fun a b => decide (a ≤ b))
theorem sortI_perm (xs : List Int) : (sortI xs).Perm xs := List.mergeSort_perm _ _
theorem sortI_asc (xs : List Int) : (sortI xs).Pairwise (· ≤ ·) := by
  have h := List.pairwise_mergeSort (le := fun a b : Int => decide (a ≤ b)) (fun a b c h1 h2 => decide_eq_true (Int.le_trans (of_decide_eq_true h1) (of_decide_eq_true h2))) (fun a b => by
    rcases Int.le_total a b with h | h
    · simp [h]
    · simp [h]) xs
  exact h.imp fun h => of_decide_eq_true h
theorem cd_sortI {ns : List Int} (q : k (.dat (.list ((sortI ns).map PyData.int))) L) : CD C (rSortedI K) [.dat (.list (ns.map PyData.int))] L k := cd_sortedI (sortI_perm ns) (sortI_asc ns) q
/-! equal, in -/
abbrev okEq (d : PyData) : Prop := SeqAt.shaped d = true ∧ flatD d = true
theorem od_eqD {d e : PyData} (h : okEq d) (h2 : okEq e) (q : k (.dat (.bool (PyData.eqv d e))) L) (hK : C.K = K := by rfl) : OD C (rEqZ K) (.dat d) (.dat e) L k := od_eq_deep ⟨h.1, h2.1, h.2, h2.2⟩ q hK
theorem od_neD {d e : PyData} (h : okEq d) (h2 : okEq e) (q : k (.dat (.bool (!PyData.eqv d e))) L) (hK : C.K = K := by rfl) : OD C (rNeZ K) (.dat d) (.dat e) L k := od_ne_deep ⟨h.1, h2.1, h.2, h2.2⟩ q hK
theorem isNone_eO {e : α → PyData} (h : ∀ a, isNoneD (e a) = false) (o : Option α) : isNoneD (eO e o) = o.isNone := by
  cases o with
  | none => rfl
  | some a => exact h a
theorem od_inL {i : Int} {ns : List Int} (q : k (.dat (.bool (decide (i ∈ ns)))) L) : OD C (rInZ K) (.dat (.int i)) (.dat (.list (ns.map PyData.int))) L k := by
  refine od_or2 (od_val (fun v w H l a b => ?_) q)
  cases a
  cases b with
  | @lst p xs _ e ha =>
    have ex := ints_of ha
    subst ex
    exact ⟨.bl _, .bl _, fun Q f => ⟨p, _, rfl, .inl (SqL.of (hid_sub _ _ e)), rfl, flat_ints ns, by rw [if_neg (by decide), inV_ints]; exact f⟩⟩
theorem od_notInL {i : Int} {ns : List Int} (q : k (.dat (.bool (!decide (i ∈ ns)))) L) : OD C (rNotInZ K) (.dat (.int i)) (.dat (.list (ns.map PyData.int))) L k := by
  refine od_or2 (od_val (fun v w H l a b => ?_) q)
  cases a
  cases b with
  | @lst p xs _ e ha =>
    have ex := ints_of ha
    subst ex
    exact ⟨.bl _, .bl _, fun Q f => ⟨p, _, rfl, .inl (SqL.of (hid_sub _ _ e)), rfl, flat_ints ns, by rw [if_pos rfl, inV_ints]; exact f⟩⟩
end
abbrev pow2 (i j : Int) : Int := i ^ j.toNat
end Y

set_option Elab.async false
set_option linter.all false
set_option maxRecDepth 100000
set_option maxHeartbeats 2000000
namespace Y
open PySem PySem.Spec PyProof.Rows L2 Z
section
variable {σ l ρ α β γ : Type} {F : Fx ρ} {N : NR σ} {M : NR l} {t u : TS} {ε ε' : Ev} {L L1 L2 : Led} {te ti to ta tb : TE} {tA : TA} {o : Ctl σ l ρ} {K : PySem.W.Frag} {C : Cz}
theorem nin_of {M1 M2 : Led} {p : Addr} (h : p ∉ M1.ks) (e : M2.ks = M1.ks) : p ∉ M2.ks := by rw [e]; exact h
theorem ne_of_nin {M1 : Led} {p q : Addr} (h : q ∉ M1.ks) (m : p ∈ M1.ks) : p ≠ q := fun z => h (z ▸ m)
theorem hv_parE {i j : Nat} {a : α} {b : β} {ea : α → PyData} {eb : β → PyData} {q : α × β → Ctl σ l ρ} (h : EA F.C tA ε L [.dat (ea a), .dat (eb b)] L1) (h2 : ∀ x y, HV F N M u ((ε.set i (some (.dat (ea x)))).set j (some (.dat (eb y)))) L1 (q (x, y))) :
    HV F N M (tSeq (tPar i j tA) u) ε L (lt (a, b) q) := hv_par h (h2 a b)
theorem hv_par3E {i j k : Nat} {a : α} {b : β} {c : γ} {ea : α → PyData} {eb : β → PyData} {ec : γ → PyData} {q : α × β × γ → Ctl σ l ρ} (h : EA F.C tA ε L [.dat (ea a), .dat (eb b), .dat (ec c)] L1)
    (h2 : ∀ x y z, HV F N M u (((ε.set i (some (.dat (ea x)))).set j (some (.dat (eb y)))).set k (some (.dat (ec z)))) L1 (q (x, y, z))) : HV F N M (tSeq (tPar3 i j k tA) u) ε L (lt (a, b, c) q) := hv_par3 h (h2 a b c)
/-! written lists -/
theorem hv_appE {i : Nat} {p : Addr} {xs : List α} {v : α} {e : α → PyData} {q : List α → Ctl σ l ρ} {Lf : List α → Led} (hx : ε[i]? = some (some (.own p))) (h : EV F.C te ε L (.dat (e v)) L) (hm : (p, .lst (xs.map e)) ∈ L) (hz : xs.length < sizeLine)
    (hL : ∀ l' : List α, up L p (.lst (l'.map e)) = Lf l') (h2 : ∀ x, HV F N M u ε (Lf x) (q x)) (hK : F.C.K = K := by rfl) : HV F N M (tSeq (tDrop (tBM K "list" rAppend (tVar i) (tCons te tNil))) u) ε L (lt (xs ++ [v]) q) :=
  hv_drop (ev_append hx hm h hm (by rw [List.length_map]; exact hz) hK) (by
    have e2 : xs.map e ++ [e v] = (xs ++ [v]).map e := by rw [List.map_append]; rfl
    rw [e2, hL]
    exact h2 _)
theorem hv_extE {i : Nat} {p : Addr} {xs ys : List α} {e : α → PyData} {q : List α → Ctl σ l ρ} {Lf : List α → Led} (hx : ε[i]? = some (some (.own p))) (h : EV F.C te ε L (.dat (eL e ys)) L) (hm : (p, .lst (xs.map e)) ∈ L) (hz : xs.length + ys.length ≤ sizeLine)
    (hL : ∀ l' : List α, up L p (.lst (l'.map e)) = Lf l') (h2 : ∀ x, HV F N M u ε (Lf x) (q x)) (hK : F.C.K = K := by rfl) : HV F N M (tSeq (tDrop (tBM K "list" rExtend (tVar i) (tCons te tNil))) u) ε L (lt (xs ++ ys) q) :=
  hv_drop (ev_extend hx hm h hm (by rw [List.length_map, List.length_map]; exact hz) hK) (by
    rw [← List.map_append, hL]
    exact h2 _)
theorem hv_revE {i : Nat} {p : Addr} {xs : List α} {e : α → PyData} {q : List α → Ctl σ l ρ} {Lf : List α → Led} (hx : ε[i]? = some (some (.own p))) (hm : (p, .lst (xs.map e)) ∈ L)
    (hL : ∀ l' : List α, up L p (.lst (l'.map e)) = Lf l') (h2 : ∀ x, HV F N M u ε (Lf x) (q x)) (hK : F.C.K = K := by rfl) : HV F N M (tSeq (tDrop (tBM0 K "list" rReverse (tVar i))) u) ε L (lt xs.reverse q) :=
  hv_drop (ev_reverse hx hm hK) (by
    rw [← List.map_reverse, hL]
    exact h2 _)
theorem last_map {xs : List α} {e : α → PyData} (h : xs ≠ []) : (xs.map e)[(xs.map e).length - 1]? = some (e (xs.getLast h)) := by
  rw [List.length_map, List.getElem?_map, ← List.getLast?_eq_getElem?, List.getLast?_eq_some_getLast h]
  rfl
theorem hv_popE {i : Nat} {p : Addr} {xs : List α} {e : α → PyData} {q : List α → Ctl σ l ρ} {Lf : List α → Led} (hx : ε[i]? = some (some (.own p))) (hm : (p, .lst (xs.map e)) ∈ L) (hz : xs ≠ [])
    (hL : ∀ l' : List α, up L p (.lst (l'.map e)) = Lf l') (h2 : ∀ x, HV F N M u ε (Lf x) (q x)) (hK : F.C.K = K := by rfl) : HV F N M (tSeq (tDrop (tBM0 K "list" rPop (tVar i))) u) ε L (lt xs.dropLast q) :=
  hv_drop (ev_pop hx hm (last_map hz) hK) (by
    rw [← List.map_dropLast, hL]
    exact h2 _)
/-- x = xs.pop() -/
theorem hv_popS {i j : Nat} {p : Addr} [Inhabited α] {xs : List α} {e : α → PyData} {q : α × List α → Ctl σ l ρ} {Lf : List α → Led} (hx : ε[i]? = some (some (.own p))) (hm : (p, .lst (xs.map e)) ∈ L) (hz : xs ≠ [])
    (hL : ∀ l' : List α, up L p (.lst (l'.map e)) = Lf l') (h2 : ∀ y x, HV F N M u (ε.set j (some (.dat (e y)))) (Lf x) (q (y, x))) (hK : F.C.K = K := by rfl) : HV F N M (tSeq (tAsg (tBM0 K "list" rPop (tVar i)) (gName j)) u) ε L (lt (xs.getLast?.getD default, xs.dropLast) q) :=
  hv_asg (ev_pop hx hm (last_map hz) hK) (by
    rw [← List.map_dropLast, hL]
    have := h2 (xs.getLast?.getD default) xs.dropLast
    rw [List.getLast?_eq_some_getLast hz] at this ⊢
    exact this)
def setI (xs : List α) (i : Int) (v : α) : List α := match ixN xs.length i with
  | some j => xs.set j v
  | none => xs
theorem hv_setLE {p : Addr} {xs : List α} {v : α} {i : Int} {e : α → PyData} {q : List α → Ctl σ l ρ} {Lf : List α → Led} (h : EV F.C te ε L (.dat (e v)) L) (ho : EV F.C to ε L (.own p) L) (hi : EV F.C ti ε L (.dat (.int i)) L) (hm : (p, .lst (xs.map e)) ∈ L) (hz : okIx xs i)
    (hL : ∀ l' : List α, up L p (.lst (l'.map e)) = Lf l') (h2 : ∀ x, HV F N M u ε (Lf x) (q x)) : HV F N M (tSeq (tAsg te (gSub to ti rSetL)) u) ε L (lt (setI xs i v) q) := by
  have hz : (atI xs i).isSome = true := hz
  unfold atI at hz
  cases hj : ixN xs.length i with
  | none =>
    rw [hj] at hz
    cases hz
  | some j =>
    have es : setI xs i v = xs.set j v := by
      unfold setI
      rw [hj]
    rw [es]
    exact hv_setL (e := e) (v := xs.set j v) (Lf := Lf) h ho hi hm (by rw [List.length_map]; exact hj) (by rw [← List.map_set, hL]) h2
theorem ew_addL {xs ys : List α} {e : α → PyData} (h1 : EV C ta ε L (.dat (eL e xs)) L1) (h2 : EV C tb ε L1 (.dat (eL e ys)) L2) (h : xs.length + ys.length ≤ sizeLine) : EW C (tOp (rAddZ K) ta tb) ε L ((xs ++ ys).map e) L2 := fun k q =>
  cp_op (h1 _ (h2 _ (od_addW h q)))
/-- a value of unknown kind, known by now -/
theorem hv_narrow (y : Ty α) (ef : PyData → Ev) {d : PyData} {q : α → Ctl σ l ρ} (h : y.p d = true) (h2 : ∀ x, HV F N M t (ef (y.e x)) L (q x)) : HV F N M t (ef d) L (lt (y.f d) q) := by
  have e := y.ok d h
  have := h2 (y.f d)
  rw [← e] at this
  exact this
/-! calls of defs that may raise -/
theorem hv_callD {d : DSp} {rs : List Rs} {r : Res α} {enc : α → PyData} {q : α → Ctl σ l ρ} (h : EA F.C tA ε L rs L) (hd : ∀ (k : Rs → Led → Prop) (x : Addr → Led → Prop), AccR F.ca r (fun v => k (.dat (enc v)) L) (fun c => x c L) → d rs L k x) (hX : F.X ε L) (h2 : ∀ v, HV F N M u ε L (q v)) :
    HV F N M (tSeq (tDrop (tCallS (lift F.C.K d) (WE F.C.W) tA)) u) ε L (callC r q) := fun P A => hs_seq (hs_drop (cp_callS (h _ (hd _ _ (by
  cases r with
  | bad => exact A.elim
  | ok v => exact h2 v P A
  | ex c => exact A ε L hX)))))
theorem hv_callS {i : Nat} {d : DSp} {rs : List Rs} {r : Res α} {enc : α → PyData} {q : α → Ctl σ l ρ} (h : EA F.C tA ε L rs L) (hd : ∀ (k : Rs → Led → Prop) (x : Addr → Led → Prop), AccR F.ca r (fun v => k (.dat (enc v)) L) (fun c => x c L) → d rs L k x) (hX : F.X ε L) (h2 : ∀ v, HV F N M u (ε.set i (some (.dat (enc v)))) L (q v)) :
    HV F N M (tSeq (tAsg (tCallS (lift F.C.K d) (WE F.C.W) tA) (gName i)) u) ε L (callC r q) := fun P A => hs_seq (hs_asg (cp_callS (h _ (hd _ _ (by
  cases r with
  | bad => exact A.elim
  | ok v => exact h2 v P A
  | ex c => exact A ε L hX)))))
theorem hv_retC {d : DSp} {rs : List Rs} {r : Res ρ} {enc : ρ → PyData} (h : EA F.C tA ε L rs L) (hd : ∀ (k : Rs → Led → Prop) (x : Addr → Led → Prop), AccR F.ca r (fun v => k (.dat (enc v)) L) (fun c => x c L) → d rs L k x) (hX : F.X ε L) (hr : ∀ v, F.R v (.dat (enc v)) L) :
    HV F N M (tRet (tCallS (lift F.C.K d) (WE F.C.W) tA)) ε L (callC r .rt) := fun P A => hs_ret (cp_callS (h _ (hd _ _ (by
  cases r with
  | bad => exact A.elim
  | ok v => exact A _ L (hr v)
  | ex c => exact A ε L hX))))
theorem accR0 {α : Type} {ca : Nat → Addr} {o : Res α} {k : α → Prop} {x : Addr → Prop} (h : AccR ca o k x) (e : ∀ c, o ≠ .ex c) : AccR ca o k fun _ => False := by
  cases o with
  | bad => exact h
  | ok r => exact h
  | ex c => exact absurd rfl (e c)
end
end Y

set_option Elab.async false
set_option linter.all false
set_option maxRecDepth 100000
set_option maxHeartbeats 2000000
/-! in, over data of any depth -/
namespace Y
open PySem PySem.Spec PyProof.Rows L2 Z
/-- whether some item is equal -/
def inD (d : PyData) (ds : List PyData) : Bool := ds.any fun e => PyData.eqv e d
def rInD (K : PySem.W.Frag) (neg : Bool) : R2 := fun x y H Q => ∃ (p : Addr) (d : PyData) (ds : List PyData) (xs : List V), y = .ref p ∧ (SqL K H p xs ∨ SqT K H p xs) ∧ Dp K H x d ∧ DpAll K H xs ds ∧ SeqAt.shaped d = true ∧ ds.all SeqAt.shaped = true ∧ Q (.bl (if neg then !inD d ds else inD d ds)) H
section
variable {X : Cx}
open Classical in
theorem in_items {A : Around} {s : Shared} {v : Value} {d : PyData} {bs : List Addr} (rd : Reads s.heap v d bs) (sd : SeqAt.shaped d = true) (hA : A.units + 64 < cLine) : ∀ (us : List Value) (ds : List PyData) (as : List Addr), ReadsAll s.heap us ds as → ds.all SeqAt.shaped = true →
    ∃ e : Value → Bool, (∀ u ∈ us, SeqAt.EqAt A s u v (e u)) ∧ us.any e = inD d ds := by
  intro us ds as r f
  let e : Value → Bool := fun u => if h : ∃ d', ∃ as, SeqAt.shaped d' = true ∧ Reads s.heap u d' as then PyData.eqv (Classical.choose h) d else false
  have he : ∀ u d' as, SeqAt.shaped d' = true → Reads s.heap u d' as → e u = PyData.eqv d' d := fun u d' as sh ru => by
    have h : ∃ d', ∃ as, SeqAt.shaped d' = true ∧ Reads s.heap u d' as := ⟨d', as, sh, ru⟩
    have h1 : e u = PyData.eqv (Classical.choose h) d := dif_pos h
    obtain ⟨as2, s2, r2⟩ := Classical.choose_spec h
    rw [h1, (Reads.unique r2 _ _ ru).1]
  refine ⟨e, ?_, ?_⟩
  · clear he
    induction us generalizing ds as with
    | nil => intro u hu; cases hu
    | cons a t ih =>
      cases r with
      | @cons _ _ d0 ds0 as0 bs0 r1 r2 =>
        rw [List.all_cons, Bool.and_eq_true] at f
        intro u hu
        rcases List.mem_cons.mp hu with z | z
        · subst z
          have h : ∃ d', ∃ as, SeqAt.shaped d' = true ∧ Reads s.heap u d' as := ⟨_, _, f.1, r1⟩
          have h1 : e u = PyData.eqv (Classical.choose h) d := dif_pos h
          obtain ⟨as2, s2, q2⟩ := Classical.choose_spec h
          rw [h1]
          exact SeqAt.eqAt_reads _ _ _ _ _ _ _ _ q2 rd (SeqAt.canLay_of_shaped s2) (SeqAt.canLay_of_shaped sd) (SeqAt.room_of_shaped s2 hA)
        · exact ih _ _ r2 f.2 u z
  · induction us generalizing ds as with
    | nil =>
      cases r
      rfl
    | cons a t ih =>
      cases r with
      | @cons _ _ d0 ds0 as0 bs0 r1 r2 =>
        rw [List.all_cons, Bool.and_eq_true] at f
        show (e a || t.any e) = (PyData.eqv d0 d || inD d ds0)
        rw [he a d0 _ f.1 r1, ih _ _ r2 f.2]
theorem op_inD (hu : X.A.in1.units + 64 < cLine) : OpR X (compareOp .In) (rInD X.K false) := by
  intro pins s σ H x y v u Q I rx ry h
  obtain ⟨p, d, ds, xs, rfl, hq, hd, hs, sd, sds, q⟩ := h
  cases ry
  obtain ⟨bs, rd⟩ := Dp.reads I d x v hd rx
  rcases hq with hq | hq
  · obtain ⟨its, r, pl, hz⟩ := I.list hq
    obtain ⟨as, rs⟩ := Dp.readsAll I ds xs its hs r
    obtain ⟨e, h1, h2⟩ := in_items (A := X.A.in1) (s := s) rd sd hu its ds as rs sds
    refine SeqAt.in_listAt e pl.isList (fun w hw => h1 w (by simpa using hw)) ⟨.bl _, H, I, rfl, ?_⟩
    rw [show its.toArray.any e = its.any e by simp, h2]
    exact q
  · obtain ⟨its, r, pl, hz⟩ := I.tuple hq
    obtain ⟨as, rs⟩ := Dp.readsAll I ds xs its hs r
    obtain ⟨e, h1, h2⟩ := in_items (A := X.A.in1) (s := s) rd sd hu its ds as rs sds
    refine SeqAt.in_tupleAt e pl (fun w hw => h1 w (by simpa using hw)) ⟨.bl _, H, I, rfl, ?_⟩
    rw [show its.toArray.any e = its.any e by simp, h2]
    exact q
theorem op_notInD (hu : X.A.in1.units + 64 < cLine) : OpR X (compareOp .NotIn) (rInD X.K true) := by
  intro pins s σ H x y v u Q I rx ry h
  obtain ⟨p, d, ds, xs, rfl, hq, hd, hs, sd, sds, q⟩ := h
  cases ry
  obtain ⟨bs, rd⟩ := Dp.reads I d x v hd rx
  rcases hq with hq | hq
  · obtain ⟨its, r, pl, hz⟩ := I.list hq
    obtain ⟨as, rs⟩ := Dp.readsAll I ds xs its hs r
    obtain ⟨e, h1, h2⟩ := in_items (A := X.A.in1) (s := s) rd sd hu its ds as rs sds
    refine SeqAt.notIn_listAt e pl.isList (fun w hw => h1 w (by simpa using hw)) ⟨.bl _, H, I, rfl, ?_⟩
    rw [show its.toArray.any e = its.any e by simp, h2]
    exact q
  · obtain ⟨its, r, pl, hz⟩ := I.tuple hq
    obtain ⟨as, rs⟩ := Dp.readsAll I ds xs its hs r
    obtain ⟨e, h1, h2⟩ := in_items (A := X.A.in1) (s := s) rd sd hu its ds as rs sds
    refine SeqAt.notIn_tupleAt e pl (fun w hw => h1 w (by simpa using hw)) ⟨.bl _, H, I, rfl, ?_⟩
    rw [show its.toArray.any e = its.any e by simp, h2]
    exact q
end
def rInY (K : PySem.W.Frag) : R2 := fun x y H Q => rInZ K x y H Q ∨ rInD K false x y H Q
theorem op_inY {X : Cx} (hu : X.A.in1.units + 64 < cLine) : OpR X (compareOp .In) (rInY X.K) := op_inZ.or (op_inD hu)
def rNotInY (K : PySem.W.Frag) : R2 := fun x y H Q => rNotInZ K x y H Q ∨ rInD K true x y H Q
theorem op_notInY {X : Cx} (hu : X.A.in1.units + 64 < cLine) : OpR X (compareOp .NotIn) (rNotInY X.K) := op_notInZ.or (op_notInD hu)
section
variable {C : Cz} {L : Led} {k : Rs → Led → Prop} {K : PySem.W.Frag} {α : Type} {e : α → PyData}
theorem rpAll_dp' {H : Hp} : ∀ {vs : List V} {ds : List PyData}, RpAll K H vs ds → ds.all flatD = true → DpAll K H vs ds
  | _, _, .nil, _ => .nil
  | _, _, .cons h t, f => by
    rw [List.all_cons, Bool.and_eq_true] at f
    exact .cons (rp_dp h f.1) (rpAll_dp' t f.2)
/-- each item is plain -/
abbrev okEqs (e : α → PyData) (xs : List α) : Prop := ∀ x ∈ xs, okEq (e x)
theorem okEqs_all {xs : List α} (h : okEqs e xs) : (xs.map e).all SeqAt.shaped = true ∧ (xs.map e).all flatD = true := by
  rw [List.all_map, List.all_map, List.all_eq_true, List.all_eq_true]
  exact ⟨fun x hx => (h x hx).1, fun x hx => (h x hx).2⟩
theorem od_inDL {d : PyData} {xs : List α} (h : okEq d) (h2 : okEqs e xs) (q : k (.dat (.bool (inD d (xs.map e)))) L) (hK : C.K = K := by rfl) : OD C (rInY K) (.dat d) (.dat (eL e xs)) L k := by
  subst hK
  refine od_or2 (od_val (fun v w H l a b => ?_) q)
  cases b with
  | @lst p ys _ e2 ha => exact ⟨.bl _, .bl _, fun Q f => ⟨p, d, _, ys, rfl, .inl (SqL.of (hid_sub _ _ e2)), rp_dp (rp_mono hid_sub a) h.2, rpAll_dp' (rpAll_mono hid_sub ha) (okEqs_all h2).2, h.1, (okEqs_all h2).1, f⟩⟩
theorem od_inDT {d : PyData} {xs : List α} (h : okEq d) (h2 : okEqs e xs) (q : k (.dat (.bool (inD d (xs.map e)))) L) (hK : C.K = K := by rfl) : OD C (rInY K) (.dat d) (.dat (eT e xs)) L k := by
  subst hK
  refine od_or2 (od_val (fun v w H l a b => ?_) q)
  cases b with
  | @tup p ys _ e2 ha => exact ⟨.bl _, .bl _, fun Q f => ⟨p, d, _, ys, rfl, .inr (ext_t hid_sub e2), rp_dp (rp_mono hid_sub a) h.2, rpAll_dp' (rpAll_mono hid_sub ha) (okEqs_all h2).2, h.1, (okEqs_all h2).1, f⟩⟩
theorem od_notInDL {d : PyData} {xs : List α} (h : okEq d) (h2 : okEqs e xs) (q : k (.dat (.bool (!inD d (xs.map e)))) L) (hK : C.K = K := by rfl) : OD C (rNotInY K) (.dat d) (.dat (eL e xs)) L k := by
  subst hK
  refine od_or2 (od_val (fun v w H l a b => ?_) q)
  cases b with
  | @lst p ys _ e2 ha => exact ⟨.bl _, .bl _, fun Q f => ⟨p, d, _, ys, rfl, .inl (SqL.of (hid_sub _ _ e2)), rp_dp (rp_mono hid_sub a) h.2, rpAll_dp' (rpAll_mono hid_sub ha) (okEqs_all h2).2, h.1, (okEqs_all h2).1, f⟩⟩
theorem od_notInDT {d : PyData} {xs : List α} (h : okEq d) (h2 : okEqs e xs) (q : k (.dat (.bool (!inD d (xs.map e)))) L) (hK : C.K = K := by rfl) : OD C (rNotInY K) (.dat d) (.dat (eT e xs)) L k := by
  subst hK
  refine od_or2 (od_val (fun v w H l a b => ?_) q)
  cases b with
  | @tup p ys _ e2 ha => exact ⟨.bl _, .bl _, fun Q f => ⟨p, d, _, ys, rfl, .inr (ext_t hid_sub e2), rp_dp (rp_mono hid_sub a) h.2, rpAll_dp' (rpAll_mono hid_sub ha) (okEqs_all h2).2, h.1, (okEqs_all h2).1, f⟩⟩
end
/-! ### plain data of a type: equality decided -/
structure PlE {α : Type} (e : α → PyData) (n : Nat) : Prop where
  lay : ∀ a, (e a).canLay0 = true
  dp : ∀ a, (e a).depth ≤ n
  fl : ∀ a, flatD (e a) = true
  inj : ∀ a b, e a = e b → a = b
  eqv : ∀ a b, PyData.eqv (e a) (e b) = true → a = b
  rfl' : ∀ a, PyData.eqv (e a) (e a) = true
def eqB {α : Type} [DecidableEq α] (a b : α) : Bool := decide (a = b)
def inB {α : Type} [DecidableEq α] (a : α) (xs : List α) : Bool := decide (a ∈ xs)
theorem eqB_iff {α : Type} [DecidableEq α] {a b : α} : eqB a b = true ↔ a = b := decide_eq_true_iff
theorem inB_iff {α : Type} [DecidableEq α] {a : α} {xs : List α} : inB a xs = true ↔ a ∈ xs := decide_eq_true_iff
theorem PlE.ok {α : Type} {e : α → PyData} {n : Nat} (h : PlE e n) (hn : n ≤ 64) (a : α) : okEq (e a) := ⟨by
  unfold SeqAt.shaped
  rw [h.lay, Bool.true_and]
  exact decide_eq_true (Nat.le_trans (h.dp a) hn), h.fl a⟩
theorem PlE.oks {α : Type} {e : α → PyData} {n : Nat} (h : PlE e n) (hn : n ≤ 64) (xs : List α) : okEqs e xs := fun x _ => h.ok hn x
theorem PlE.dec {α : Type} [DecidableEq α] {e : α → PyData} {n : Nat} (h : PlE e n) (a b : α) : PyData.eqv (e a) (e b) = eqB a b := by
  unfold eqB
  by_cases z : a = b
  · subst z
    rw [h.rfl', decide_eq_true rfl]
  · rw [decide_eq_false z]
    cases q : PyData.eqv (e a) (e b) with
    | false => rfl
    | true => exact absurd (h.eqv a b q) z
theorem PlE.mem {α : Type} [DecidableEq α] {e : α → PyData} {n : Nat} (h : PlE e n) (a : α) (xs : List α) : inD (e a) (xs.map e) = inB a xs := by
  unfold inD inB
  rw [List.any_map]
  induction xs with
  | nil => simp
  | cons b r ih =>
    rw [List.any_cons, ih]
    show (PyData.eqv (e b) (e a) || decide (a ∈ r)) = _
    rw [h.dec, eqB]
    by_cases z : b = a
    · subst z
      simp
    · rw [decide_eq_false z, Bool.false_or]
      have : (a ∈ b :: r) ↔ a ∈ r := by
        rw [List.mem_cons]
        exact ⟨fun h => h.resolve_left fun q => z q.symm, .inr⟩
      simp [this]
theorem plI : PlE eI 1 := ⟨fun a => rfl, fun a => by show PyData.depth (.int a) ≤ 1; simp [PyData.depth], fun _ => rfl, fun a b h => PyData.int.inj h, fun a b h => by
  have h : (a == b) = true := h
  exact beq_iff_eq.mp h, fun a => by show (a == a) = true; exact beq_self_eq_true a⟩
theorem plB : PlE eB 1 := ⟨fun a => rfl, fun a => by show PyData.depth (.bool a) ≤ 1; simp [PyData.depth], fun _ => rfl, fun a b h => PyData.bool.inj h, fun a b h => by
  have h : (a == b) = true := h
  exact beq_iff_eq.mp h, fun a => by show (a == a) = true; exact beq_self_eq_true a⟩
section
variable {α β : Type} {e : α → PyData} {n : Nat}
theorem lay_all (h : PlE e n) : ∀ xs : List α, PyData.canLayAll0 (xs.map e) = true
  | [] => rfl
  | a :: r => by
    show (PyData.canLay0 (e a) && PyData.canLayAll0 (r.map e)) = true
    rw [h.lay, lay_all h r]
    rfl
theorem flat_all (h : PlE e n) : ∀ xs : List α, flatAll (xs.map e) = true
  | [] => rfl
  | a :: r => by
    show (flatD (e a) && flatAll (r.map e)) = true
    rw [h.fl, flat_all h r]
    rfl
theorem eqv_all (h : PlE e n) : ∀ xs ys : List α, PyData.eqvAll (xs.map e) (ys.map e) = true → xs = ys
  | [], [], _ => rfl
  | [], _ :: _, q => by cases q
  | _ :: _, [], q => by cases q
  | a :: r, b :: t, q => by
    have q : (PyData.eqv (e a) (e b) && PyData.eqvAll (r.map e) (t.map e)) = true := q
    rw [Bool.and_eq_true] at q
    rw [h.eqv a b q.1, eqv_all h r t q.2]
theorem eqv_rfl (h : PlE e n) : ∀ xs : List α, PyData.eqvAll (xs.map e) (xs.map e) = true
  | [] => rfl
  | a :: r => by
    show (PyData.eqv (e a) (e a) && PyData.eqvAll (r.map e) (r.map e)) = true
    rw [h.rfl', eqv_rfl h r]
    rfl
theorem depth_all (h : PlE e n) : ∀ xs : List α, PyData.depthAll (xs.map e) ≤ n
  | [] => by simp [PyData.depthAll]
  | a :: r => by
    have h1 := h.dp a
    have h2 := depth_all h r
    simp only [List.map_cons, PyData.depthAll]
    omega
theorem map_inj (h : PlE e n) : ∀ xs ys : List α, xs.map e = ys.map e → xs = ys
  | [], [], _ => rfl
  | [], _ :: _, q => by cases q
  | _ :: _, [], q => by cases q
  | a :: r, b :: t, q => by
    rw [List.map_cons, List.map_cons] at q
    obtain ⟨q1, q2⟩ := List.cons.inj q
    rw [h.inj a b q1, map_inj h r t q2]
theorem plL (h : PlE e n) : PlE (eL e) (n + 1) := ⟨fun xs => lay_all h xs, fun xs => by
  have := depth_all h xs
  show PyData.depth (.list (xs.map e)) ≤ n + 1
  simp only [PyData.depth]
  omega, fun xs => flat_all h xs, fun xs ys q => map_inj h xs ys (PyData.list.inj q), fun xs ys q => eqv_all h xs ys q, fun xs => eqv_rfl h xs⟩
theorem plT (h : PlE e n) : PlE (eT e) (n + 1) := ⟨fun xs => lay_all h xs, fun xs => by
  have := depth_all h xs
  show PyData.depth (.tuple (xs.map e)) ≤ n + 1
  simp only [PyData.depth]
  omega, fun xs => flat_all h xs, fun xs ys q => map_inj h xs ys (PyData.tuple.inj q), fun xs ys q => eqv_all h xs ys q, fun xs => eqv_rfl h xs⟩
theorem plP2 {e2 : β → PyData} {m : Nat} (h : PlE e n) (h2 : PlE e2 m) : PlE (eP2 e e2) (n + m + 1) := ⟨fun a => by
  show (PyData.canLay0 (e a.1) && (PyData.canLay0 (e2 a.2) && true)) = true
  rw [h.lay, h2.lay]
  rfl, fun a => by
  have h3 := h.dp a.1
  have h4 := h2.dp a.2
  show PyData.depth (.tuple [e a.1, e2 a.2]) ≤ n + m + 1
  simp only [PyData.depth, PyData.depthAll]
  omega, fun a => by
  show (flatD (e a.1) && (flatD (e2 a.2) && true)) = true
  rw [h.fl, h2.fl]
  rfl, fun a b q => by
  have q := PyData.tuple.inj q
  obtain ⟨q1, q2⟩ := List.cons.inj q
  obtain ⟨q2, _⟩ := List.cons.inj q2
  exact Prod.ext (h.inj _ _ q1) (h2.inj _ _ q2), fun a b q => by
  have q : (PyData.eqv (e a.1) (e b.1) && (PyData.eqv (e2 a.2) (e2 b.2) && true)) = true := q
  rw [Bool.and_eq_true, Bool.and_eq_true] at q
  exact Prod.ext (h.eqv _ _ q.1) (h2.eqv _ _ q.2.1), fun a => by
  show (PyData.eqv (e a.1) (e a.1) && (PyData.eqv (e2 a.2) (e2 a.2) && true)) = true
  rw [h.rfl', h2.rfl']
  rfl⟩
end
end Y

set_option Elab.async false
set_option linter.all false
set_option maxRecDepth 100000
set_option maxHeartbeats 2000000
namespace Y
open PySem PySem.Spec PyProof.Rows L2 Z
instance : Inhabited PyData := ⟨.none⟩
/-! ### the draws -/
def tkV (ds : List Nat) (b : Int) : Int := match ds.getLast? with
  | none => 0
  | some n => (n : Int) % b
def tkD (ds : List Nat) : List Nat := ds.dropLast
theorem tkV_bd {ds : List Nat} {b : Int} (h : 0 < b) : 0 ≤ tkV ds b ∧ tkV ds b < b := by
  unfold tkV
  cases ds.getLast? with
  | none => exact ⟨Int.le_refl 0, h⟩
  | some n => exact ⟨Int.emod_nonneg _ (by omega), Int.emod_lt_of_pos _ h⟩
/-- one of some -/
def pkV {α : Type} [Inhabited α] (ds : List Nat) (xs : List α) : α := ix xs (tkV ds xs.length)
theorem pk_ok {α : Type} {ds : List Nat} {xs : List α} (h : xs ≠ []) : okIx xs (tkV ds xs.length) := by
  have hp : (0 : Int) < xs.length := by
    have := List.length_pos_iff.mpr h
    omega
  obtain ⟨h1, h2⟩ := tkV_bd (ds := ds) hp
  obtain ⟨d, e, _, _⟩ := atI_int h1 h2
  show (atI xs _).isSome = true
  rw [e]
  rfl
theorem pk_mem {α : Type} [Inhabited α] {ds : List Nat} {xs : List α} (h : xs ≠ []) : pkV ds xs ∈ xs := by
  have hp : (0 : Int) < xs.length := by
    have := List.length_pos_iff.mpr h
    omega
  obtain ⟨h1, h2⟩ := tkV_bd (ds := ds) hp
  obtain ⟨d, e, hm, _⟩ := atI_int h1 h2
  unfold pkV ix
  rw [e]
  exact hm
@[reducible] def d_take : DSp := fun rs L k _ => ∃ (ds : List Nat) (p : Addr) (b : Int), rs = [.own p, .dat (.int b)] ∧ (p, .lst (ds.map natD)) ∈ L ∧ 0 < b ∧ k (.dat (.int (tkV ds b))) (up L p (.lst ((tkD ds).map natD)))
@[reducible] def d_pick : DSp := fun rs L k _ => ∃ (ds : List Nat) (p : Addr) (s : PyData), (p, .lst (ds.map natD)) ∈ L ∧ rs = [.own p, .dat s] ∧ hasLen s = true ∧ isSeqD s = true ∧ itemsD s ≠ [] ∧ k (.dat (pkV ds (itemsD s))) (up L p (.lst ((tkD ds).map natD)))
@[reducible] def d_draws : DSp := fun rs L k _ => ∃ ns : List Int, rs = [.scr ns] ∧ ns.length ≤ 63 ∧ ∀ p (ds : List Nat), p ∉ L.ks → k (.own p) (plus L p (ds.map natD))
section
variable {σ l ρ α β : Type} {F : Fx ρ} {N : NR σ} {M : NR l} {t u : TS} {ε ε' : Ev} {L L1 L2 : Led} {te ti to ta tb : TE} {tA : TA} {o : Ctl σ l ρ} {K : PySem.W.Frag} {C : Cz}
theorem ev_take {i : Nat} {ds : List Nat} {p : Addr} {b : Int} (hx : ε[i]? = some (some (.own p))) (h : EV C te ε L (.dat (.int b)) L) (hm : (p, .lst (ds.map natD)) ∈ L) (hb : 0 < b) (hL : up L p (.lst ((tkD ds).map natD)) = L2) :
    EV C (tCall (lift C.K d_take) [] E0 (tCons (tVar i) (tCons te tNil))) ε L (.dat (.int (tkV ds b))) L2 := ev_call (ea_cons (ev_var hx) (ea_cons h ea_nil)) fun k q => ⟨ds, p, b, rfl, hm, hb, by rw [hL]; exact q⟩
theorem ix_map [Inhabited α] {β : Type} [Inhabited β] {e : α → β} {xs : List α} {i : Int} (h : okIx xs i) : ix (xs.map e) i = e (ix xs i) := by
  have := atI_ix h e
  unfold ix at this ⊢
  rw [this]
  rfl
theorem pk_map [Inhabited α] {e : α → PyData} {ds : List Nat} {xs : List α} (h : xs ≠ []) : pkV ds (xs.map e) = e (pkV ds xs) := by
  unfold pkV
  rw [List.length_map]
  exact ix_map (pk_ok h)
theorem ev_pickL [Inhabited α] {i : Nat} {ds : List Nat} {p : Addr} {e : α → PyData} {xs : List α} (hx : ε[i]? = some (some (.own p))) (h : EV C te ε L (.dat (eL e xs)) L1) (hm : (p, .lst (ds.map natD)) ∈ L1) (hb : xs ≠ []) (hL : up L1 p (.lst ((tkD ds).map natD)) = L2) :
    EV C (tCall (lift C.K d_pick) [] E0 (tCons (tVar i) (tCons te tNil))) ε L (.dat (e (pkV ds xs))) L2 := ev_call (ea_cons (ev_var hx) (ea_cons h ea_nil)) fun k q => ⟨ds, p, _, hm, rfl, rfl, rfl, fun z => hb (List.map_eq_nil_iff.mp z), by
      rw [hL]
      show k (.dat (pkV ds (xs.map e))) L2
      rw [pk_map hb]
      exact q⟩
theorem ev_pickT [Inhabited α] {i : Nat} {ds : List Nat} {p : Addr} {e : α → PyData} {xs : List α} (hx : ε[i]? = some (some (.own p))) (h : EV C te ε L (.dat (eT e xs)) L1) (hm : (p, .lst (ds.map natD)) ∈ L1) (hb : xs ≠ []) (hL : up L1 p (.lst ((tkD ds).map natD)) = L2) :
    EV C (tCall (lift C.K d_pick) [] E0 (tCons (tVar i) (tCons te tNil))) ε L (.dat (e (pkV ds xs))) L2 := ev_call (ea_cons (ev_var hx) (ea_cons h ea_nil)) fun k q => ⟨ds, p, _, hm, rfl, rfl, rfl, fun z => hb (List.map_eq_nil_iff.mp z), by
      rw [hL]
      show k (.dat (pkV ds (xs.map e))) L2
      rw [pk_map hb]
      exact q⟩
instance : Inhabited Str := ⟨⟨#[]⟩⟩
theorem ev_pickS {i : Nat} {ds : List Nat} {p : Addr} {z : Str} (hx : ε[i]? = some (some (.own p))) (h : EV C te ε L (.dat (.str z)) L1) (hm : (p, .lst (ds.map natD)) ∈ L1) (hz : z.length ≤ sizeLine) (hb : sgns z ≠ []) (hL : up L1 p (.lst ((tkD ds).map natD)) = L2) :
    EV C (tCall (lift C.K d_pick) [] E0 (tCons (tVar i) (tCons te tNil))) ε L (.dat (eS (pkV ds (sgns z)))) L2 := ev_call (ea_cons (ev_var hx) (ea_cons h ea_nil)) fun k q => by
      have es : z.cps.toList.map sgn = (sgns z).map eS := by
        unfold sgns
        rw [List.map_map]
        rfl
      refine ⟨ds, p, _, hm, rfl, decide_eq_true hz, rfl, ?_, ?_⟩
      · show z.cps.toList.map sgn ≠ []
        rw [es]
        exact fun y => hb (List.map_eq_nil_iff.mp y)
      · rw [hL]
        show k (.dat (pkV ds (z.cps.toList.map sgn))) L2
        rw [es, pk_map hb]
        exact q
/-- the ledger by a plain value -/
theorem hv_ltL {v : α} {q : α → Ctl σ l ρ} {Lf : α → Led} (h : ∀ x, HV F N M t ε (Lf x) (q x)) : HV F N M t ε (Lf v) (lt v q) := h v
/-- the draws' content, told anew -/
theorem hv_base {p : Addr} {ds : List PyData} (hm : (p, .lst ds) ∈ L) (h : HV F N M t ε (up L p (.lst ds)) o) : HV F N M t ε L o := fun P A σ H D R X E => by
  have e : up L p (.lst ds) = L := up_self fun m' h' => R.led.uniq h' hm
  exact h P A σ H D (by rw [e]; exact R) (by rw [e]; exact X) (by rw [e]; exact E)
/-- the whole draws of the law -/
theorem hv_draws {i : Nat} {ns : List Int} {q : List Nat → Ctl σ l ρ} (hx : ε[0]? = some (some (.scr ns))) (hn : ns.length ≤ 63) (h2 : ∀ p (ds : List Nat), p ∉ L.ks → HV F N M u (ε.set i (some (.own p))) (plus L p (ds.map natD)) o) :
    HV F N M (tSeq (tAsg (tCall (lift F.C.K d_draws) [] E0 (tCons (tVar 0) tNil)) (gName i)) u) ε L o := fun P A => hs_seq (hs_asg (cp_call (ca_cons (cp_var hx (ca_nil ⟨ns, rfl, hn, fun p ds hp => h2 p ds hp P A⟩)))))
/-- a call that changes a ledger -/
theorem ev_callU {d : DSp} {rs : List Rs} {z : Rs} {L3 : Led} (h1 : EA C tA ε L rs L1) (e : L3 = L2) (h2 : ∀ k : Rs → Led → Prop, k z L3 → d rs L1 k fun _ _ => False) : EV C (tCall (lift C.K d) [] E0 tA) ε L z L2 := ev_call h1 fun k q => h2 k (by rw [e]; exact q)
/-! ### the law's own comparison -/
open Classical in
noncomputable def m__law_same (a b : PyData) : Res Bool := if a = b ∧ okD 8 a then .ok true else .bad
@[reducible] def d_same : DSp := fun rs L k _ => ∃ a b, rs = [.dat a, .dat b] ∧ AccR (fun _ => 0) (m__law_same a b) (fun r => k (.dat (.bool r)) L) fun _ => False
theorem same_dSame {rs : List Rs} {k : Rs → Led → Prop} {x : Addr → Led → Prop} (h : d_same rs L k x) : dSame 9 rs L k x := by
  obtain ⟨a, b, rfl, h⟩ := h
  unfold m__law_same at h
  split at h
  · rename_i q
    obtain ⟨rfl, ok⟩ := q
    exact ⟨a, rfl, ok, h⟩
  · exact h.elim
/-! ### try -/
end
def flV (c : Nat) : List Bool := [c == 0, c == 1, c == 2, c == 3, c == 4]
def tryB {σ l ρ : Type} (cs : List Nat) (o : Ctl σ l ρ) (h : Nat → Ctl σ l ρ) : Ctl σ l ρ := match o with
  | .ex c => if c ∈ cs then h c else .bad
  | o => o
section
variable {σ l ρ α β : Type} {F : Fx ρ} {N : NR σ} {M : NR l} {t u : TS} {ε ε' : Ev} {L L1 L2 : Led} {te ti to ta tb : TE} {tA : TA} {o : Ctl σ l ρ} {K : PySem.W.Frag} {C : Cz}
/-- try .. except c₀ as n (slot i), the suite leading out -/
def tTryAs (K : PySem.W.Frag) (c₀ : Value) (i : Nat) (tb : WX → TS) (ts : Addr → Value → Option Addr → TS) (Wout : WX) : TS := fun D σ H => tb (wAs K c₀ i ts Wout D) D σ H
theorem hv_tryAs {c₀ : Value} {i : Nat} {tb : WX → TS} {ts : Addr → Value → Option Addr → TS} {Wout : WX} {cs : List Nat} {h : Nat → Ctl σ l ρ}
    (hb : ∀ (W : WX) (kx : KX), HV ⟨⟨F.C.K, W, kx⟩, F.ca, F.R, fun ε' L' => ε' = ε ∧ L' = L⟩ N M (tb W) ε L o)
    (hx : ∀ c ∈ cs, PySem.W.exmOne K (.ref (F.ca c)) c₀ = some true)
    (hh : ∀ c ∈ cs, ∀ a, HV F (fun _ _ _ => False) (fun _ _ _ => False) (ts a (.ref (F.ca c)) none) (ε.set i (some (.raw (.ref a)))) L (h c)) (hK : F.C.K = K := by rfl) :
    HV F N M (tTryAs K c₀ i tb ts Wout) ε L (tryB cs o h) := fun P A => by
  refine hs_tryAs (K := K) (fun c' ε' L' => ∃ c, c ∈ cs ∧ c' = F.ca c ∧ ε' = ε ∧ L' = L ∧ Acc F N M P (h c)) (fun W => hb W _ P ?_) ?_ hK
  · cases o with
    | bad => exact A
    | nx s => exact A
    | ct s => exact A
    | bk s => exact A
    | rt r => exact A
    | ex c =>
      rintro ε' L' ⟨rfl, rfl⟩
      have A : Acc F N M P (if c ∈ cs then h c else .bad) := A
      by_cases hc : c ∈ cs
      · rw [if_pos hc] at A
        exact ⟨c, hc, rfl, rfl, rfl, A⟩
      · rw [if_neg hc] at A
        exact A.elim
  · rintro c' ε' L' ⟨c, hc, rfl, rfl, rfl, A⟩
    refine ⟨hx c hc, fun a => hh c hc a _ ?_⟩
    generalize h c = o2 at A
    cases o2 with
    | bad => exact A
    | nx s => exact fun _ _ f => f.elim
    | ct s => exact fun _ _ f => f.elim
    | bk s => exact fun _ _ f => f.elim
    | rt r => exact A
    | ex c => exact A
theorem ev_flags {cs : List Addr} {a c : Addr} {bs : List Bool} {j : Nat} (hF : FlagsAt C.K c cs bs) (hx : ε[j]? = some (some (.raw (.ref a)))) : EV C (tCallQ (spFlags C.K cs) a (.ref c) none (tCons (tVar j) tNil)) ε L (.dat (eL eB bs)) L := fun k q =>
  cp_flags hF.1 hF.2 (ca_cons (cp_var hx (ca_nil ⟨rfl, q⟩)))
/-! ### a def out of a list of defs -/
theorem hv_sel {b : Bool} {o1 o2 : Ctl σ l ρ} (h1 : b = true → HV F N M t ε L o1) (h2 : b = false → HV F N M t ε L o2) : HV F N M t ε L (bif b then o1 else o2) := by
  cases b with
  | true => exact h1 rfl
  | false => exact h2 rfl
theorem hv_retV {Kd : Addr → DSp → Prop} {ws : List V} {tL : TA} {i : Int} {f : Addr} {d : DSp} {rs : List Rs} {r : Res α} {enc : α → PyData} {g : α → ρ} (hl : EA F.C tL ε L (ws.map Rs.raw) L) (hz : ws.length ≤ sizeLine) (hi : EV F.C ti ε L (.dat (.int i)) L) (hf : atI ws i = some (.ref f)) (hk : Kd f d)
    (h : EA F.C tA ε L rs L) (hd : ∀ (k : Rs → Led → Prop) (x : Addr → Led → Prop), AccR F.ca r (fun v => k (.dat (enc v)) L) (fun c => x c L) → d rs L k x) (hX : F.X ε L) (hr : ∀ v, F.R (g v) (.dat (enc v)) L) (hK : F.C.K = K := by rfl) :
    HV F N M (tRet (tCallV (knD F.C.K Kd) (WE F.C.W) (tOp (rIx K) (tLst tL) ti) tA)) ε L (callC r fun v => .rt (g v)) := fun P A => hs_ret (cp_callV (cp_ixRaw (hl _ ⟨ws, rfl, hz, hi _ ⟨i, _, rfl, hf, f, d, rfl, hk, h _ (hd _ _ (by
  cases r with
  | bad => exact A.elim
  | ok v => exact A _ L (hr v)
  | ex c => exact A ε L hX))⟩⟩) hK))
/-! ### sorted(set(xs)), a tuple of whole numbers -/
end
def rSetTI (K : PySem.W.Frag) (w : World) : List V → Hp → VK → Prop := fun vs H Q => ∃ (a : Addr) (ns : List Int), vs = [V.ref a] ∧ SqT K H a (ns.map V.int) ∧ ns.length + 1 < scanBound ∧
  ∀ p n, n ≤ ns.length → H p = none → Q (.ref p) (upd H p (SetO w p (fun j => decide (j ∈ ns)) n))
theorem cr_setTI {X : Cx} (hc : X.calm = true) : CallR X (.type "set") (rSetTI X.K X.w) := by
  intro pins s σ H vs us Q I r h
  obtain ⟨a, ns, rfl, hs, hz, q⟩ := h
  obtain ⟨its, rv, hl, _⟩ := I.tuple hs
  rw [Vals.ref1 r]
  refine L2.call_set_tupI ns (I.ok.hd hc) hl (by simpa using rv.ints) hz fun h' tk c R hn hk => ?_
  have hfree : H s.heap.objs.size = none := I.hok.fresh (Nat.le_refl _)
  exact ⟨.ref _, upd H s.heap.objs.size (SetO X.w s.heap.objs.size (fun j => decide (j ∈ ns)) c), I.laid (t' := tk) hk (Nat.le_refl _) (setO_new R), rfl, q _ c hn hfree⟩
/-- ascending, each once -/
def insU (x : Int) : List Int → List Int
  | [] => [x]
  | y :: r => if x < y then x :: y :: r else if x = y then y :: r else y :: insU x r
def usort (xs : List Int) : List Int := xs.foldr insU []
theorem insU_mem {x z : Int} : ∀ {l : List Int}, z ∈ insU x l ↔ z = x ∨ z ∈ l
  | [] => by simp [insU]
  | y :: r => by
    unfold insU
    split
    · simp
    · split
      · rename_i h1 h2
        subst h2
        simp
      · rw [List.mem_cons, insU_mem, List.mem_cons]
        exact ⟨fun h => by rcases h with h | h | h <;> simp [h], fun h => by rcases h with h | h | h <;> simp [h]⟩
theorem insU_asc {x : Int} : ∀ {l : List Int}, l.Pairwise (· < ·) → (insU x l).Pairwise (· < ·)
  | [], _ => by simp [insU]
  | y :: r, h => by
    obtain ⟨h1, h2⟩ := List.pairwise_cons.mp h
    unfold insU
    split
    · rename_i q
      refine List.pairwise_cons.mpr ⟨fun z hz => ?_, h⟩
      rcases List.mem_cons.mp hz with e | e
      · omega
      · have := h1 z e
        omega
    · split
      · exact h
      · refine List.pairwise_cons.mpr ⟨fun z hz => ?_, insU_asc h2⟩
        rcases insU_mem.mp hz with e | e
        · omega
        · exact h1 z e
theorem usort_mem {z : Int} : ∀ {l : List Int}, z ∈ usort l ↔ z ∈ l
  | [] => by simp [usort]
  | y :: r => by
    have := usort_mem (z := z) (l := r)
    unfold usort at this ⊢
    rw [List.foldr_cons, insU_mem, this, List.mem_cons]
theorem usort_asc : ∀ (l : List Int), (usort l).Pairwise (· < ·)
  | [] => .nil
  | y :: r => insU_asc (usort_asc r)
theorem asc_uniq : ∀ {a b : List Int}, a.Pairwise (· < ·) → b.Pairwise (· < ·) → (∀ z, z ∈ a ↔ z ∈ b) → a = b
  | [], [], _, _, _ => rfl
  | [], y :: r, _, _, h => by have := (h y).mpr List.mem_cons_self; cases this
  | y :: r, [], _, _, h => by have := (h y).mp List.mem_cons_self; cases this
  | x :: a, y :: b, ha, hb, h => by
    obtain ⟨a1, a2⟩ := List.pairwise_cons.mp ha
    obtain ⟨b1, b2⟩ := List.pairwise_cons.mp hb
    have e : x = y := by
      rcases List.mem_cons.mp ((h x).mp List.mem_cons_self) with e | e
      · exact e
      · rcases List.mem_cons.mp ((h y).mpr List.mem_cons_self) with e2 | e2
        · exact e2.symm
        · have := a1 y e2
          have := b1 x e
          omega
    subst e
    congr 1
    refine asc_uniq a2 b2 fun z => ⟨fun hz => ?_, fun hz => ?_⟩
    · rcases List.mem_cons.mp ((h z).mp (List.mem_cons_of_mem _ hz)) with e | e
      · have := a1 z hz
        omega
      · exact e
    · rcases List.mem_cons.mp ((h z).mpr (List.mem_cons_of_mem _ hz)) with e | e
      · have := b1 z hz
        omega
      · exact e
theorem ev_sortSetT {C : Cz} {te : TE} {ε : Ev} {L L1 : Led} {w : World} {K : PySem.W.Frag} {ns : List Int} (h : EV C te ε L (.dat (eT eI ns)) L1) (hz : ns.length < 64) (hK : C.K = K := by rfl) :
    EV C (tCB (rSortedSet w) (tCons (tCB (rSetTI K w) (tCons te tNil)) tNil)) ε L (.dat (eL eI (usort ns))) L1 := fun k q σ H Q R X z => by
  subst hK
  refine h (fun r L' => r = .dat (eT eI ns) ∧ L' = L1) ⟨rfl, rfl⟩ σ H _ R X fun v r L2 H1 g1 k1 R1 o1 ⟨er, el⟩ => ?_
  subst er el
  have o1 : Rp C.K (hid L2 H1) v (.tuple (ns.map PyData.int)) := o1
  cases o1 with
  | @tup a xs _ e ha =>
    have ex := ints_of ha
    subst ex
    refine ⟨a, ns, rfl, ext_t hid_sub e, by show _ < 4096; omega, fun p n hn hp => ?_⟩
    refine ⟨p, _, n, rfl, upd_same, by omega, fun ms p2 h1 h2 h3 h4 => ?_⟩
    have em : ms = usort ns := asc_uniq h1 (usort_asc ns) fun z => by rw [h2, usort_mem]; exact decide_eq_true_iff
    subst em
    have g2 : Grow H1 L2 (upd H1 p (SetO w p (fun j => decide (j ∈ ns)) n)) L2 := grow_new hp
    have l2 := R1.led.new (o := SetO w p (fun j => decide (j ∈ ns)) n) hp
    have R2 := R1.grow g2 (Keeps.refl _) l2
    have g3 : Grow (upd H1 p (SetO w p (fun j => decide (j ∈ ns)) n)) L2 (upd (upd H1 p (SetO w p (fun j => decide (j ∈ ns)) n)) p2 (.lst ((usort ns).map V.int))) L2 := grow_new h4
    exact z _ (.dat (eL eI (usort ns))) L2 _ ((g1.trans g2).trans g3) k1 (R2.grow g3 (Keeps.refl _) (l2.new h4)) (.lst (by rw [hid_out (l2.fresh h4)]; exact upd_same) (rpAll_ints _)) q
end Y

set_option Elab.async false
set_option linter.all false
set_option maxRecDepth 100000
set_option maxHeartbeats 2000000
namespace Y
open PySem PySem.Spec PyProof.Rows L2 Z
/-! ### comprehensions whose items draw: the ledger goes on -/
def mapS {α β δ : Type} (f : α → δ → β × δ) : List α → δ → List β × δ
  | [], s => ([], s)
  | x :: r, s => ((f x s).1 :: (mapS f r (f x s).2).1, (mapS f r (f x s).2).2)
theorem mapS_app {α β δ : Type} (f : α → δ → β × δ) : ∀ (xs : List α) (x : α) (s : δ), mapS f (xs ++ [x]) s = ((mapS f xs s).1 ++ [(f x (mapS f xs s).2).1], (f x (mapS f xs s).2).2)
  | [], x, s => rfl
  | y :: r, x, s => by
    rw [List.cons_append]
    unfold mapS
    rw [mapS_app f r x]
    rfl
theorem mapS_len {α β δ : Type} (f : α → δ → β × δ) : ∀ (xs : List α) (s : δ), (mapS f xs s).1.length = xs.length
  | [], s => rfl
  | y :: r, s => by
    unfold mapS
    rw [List.length_cons, List.length_cons, mapS_len f r]
theorem mapS_all {α β δ : Type} {f : α → δ → β × δ} {p : β → Prop} : ∀ {xs : List α} {s : δ}, (∀ x ∈ xs, ∀ s, p (f x s).1) → ∀ y ∈ (mapS f xs s).1, p y
  | [], s, _ => fun y hy => by cases hy
  | x :: r, s, h => fun y hy => by
    unfold mapS at hy
    rcases List.mem_cons.mp hy with e | e
    · rw [e]
      exact h x List.mem_cons_self s
    · exact mapS_all (fun x hx => h x (List.mem_cons_of_mem _ hx)) y e
section
variable {C : Cz} {ε : Ev} {L : Led} {wi : TI} {g : TG} {te : TE} {vs : List Nat} {α β δ : Type}
theorem plus_ks2 {L1 L2 : Led} {p : Addr} {a b : List PyData} (h : L1.ks = L2.ks) : (plus L1 p a).ks = (plus L2 p b).ks := by
  unfold plus Led.ks at *
  rw [List.map_append, List.map_append, h]
  rfl
theorem cp_lcS {k : Rs → Led → Prop} {Lf : δ → Led} (hks : ∀ s s', (Lf s).ks = (Lf s').ks) {xs : List α} {g0 : α → PyData} {e : β → PyData} {f : α → δ → β × δ} {s1 : δ} (hi : EI C wi ε L (xs.map g0) (Lf s1)) (hz : xs.length < sizeLine)
    (hb : ∀ x ∈ xs, ∀ s acc p, p ∉ (Lf s).ks → ∃ ε2, EG (C0 C.K) g (.dat (g0 x)) (wipeE ε vs) (plus (Lf s) p acc) ε2 ∧ EV (C0 C.K) te ε2 (plus (Lf s) p acc) (.dat (e (f x s).1)) (plus (Lf (f x s).2) p acc))
    (q : k (.dat (eL e (mapS f xs s1).1)) (Lf (mapS f xs s1).2)) (ho : GOwn g vs) : CP C (tLc wi g tYes te vs) ε L k := fun σ H Q R X z =>
  hi (fun ds L' => ds = xs.map g0 ∧ L' = Lf s1) ⟨rfl, rfl⟩ σ H _ R X fun J ds L0 H1 g1 k1 R1 J1 ⟨eds, eL0⟩ D hD => by
    subst eds eL0
    have hDn : ∀ s, D ∉ (Lf s).ks := fun s => by
      rw [hks s s1]
      exact R1.led.fresh hD
    have kk : ∀ s, Keeps (Lf s1) (plus (Lf s) D ((mapS f xs s1).1.map e)) := fun s a ha => keeps_own a (by rw [hks s s1]; exact ha)
    refine ⟨fun i m H' => m = xs.length - i ∧ i ≤ xs.length ∧ Grow H1 (Lf s1) H' (plus (Lf (mapS f (xs.take i) s1).2) D ((mapS f (xs.take i) s1).1.map e)) ∧ LOk C.K (plus (Lf (mapS f (xs.take i) s1).2) D ((mapS f (xs.take i) s1).1.map e)) H', ⟨_, rfl, Nat.zero_le _, grow_own hD, R1.led.own hD .nil⟩, ?_⟩
    rintro i m H' ⟨rfl, hl, g', l'⟩
    obtain ⟨js, jg⟩ := J1 _ H' g' l' i
    generalize hs : (mapS f (xs.take i) s1).2 = s at g' l' js jg
    generalize ha : (mapS f (xs.take i) s1).1 = acc at g' l' js jg
    have hal : acc.length ≤ i := by
      rw [← ha, mapS_len, List.length_take]
      exact Nat.min_le_left _ _
    have RW : Rel C.K (plus (Lf s) D (acc.map e)) (wipeE ε vs) (wipe σ vs) H' := (rel_wipe R1 vs).grow g' (fun a ha => keeps_own a (by rw [hks s s1]; exact ha)) l'
    by_cases hlt : i < xs.length
    · have hx : xs[i]? = some xs[i] := List.getElem?_eq_getElem hlt
      obtain ⟨j1, j2⟩ := jg (g0 xs[i]) (by rw [List.getElem?_map, hx]; rfl)
      have et : xs.take (i + 1) = xs.take i ++ [xs[i]] := by rw [List.take_add_one, hx] <;> rfl
      have em := mapS_app f (xs.take i) xs[i] s1
      rw [← et, hs, ha] at em
      refine .inr ⟨j1, fun H2 => i + 1 ≤ xs.length ∧ Grow H1 (Lf s1) H2 (plus (Lf (mapS f (xs.take (i + 1)) s1).2) D ((mapS f (xs.take (i + 1)) s1).1.map e)) ∧ LOk C.K (plus (Lf (mapS f (xs.take (i + 1)) s1).2) D ((mapS f (xs.take (i + 1)) s1).1.map e)) H2, fun H2 ⟨a, b⟩ => ⟨xs.length - (i + 1), by omega, rfl, a, b⟩, fun v H2 y => ?_⟩
      obtain ⟨g2, l2, rp⟩ := j2 v H2 y
      obtain ⟨ε2, h1, h2⟩ := hb xs[i] (List.mem_of_getElem? hx) s (acc.map e) D (hDn s)
      refine ho.use ?_
      refine h1 (fun ε' L' => ε' = ε2 ∧ L' = plus (Lf s) D (acc.map e)) ⟨rfl, rfl⟩ v (wipe σ vs) H2 _ (RW.grow g2 (Keeps.refl _) l2) rp fun ε3 L3 σ3 H3 g3 k3 R3 ⟨e3, e4⟩ => ?_
      subst e3 e4
      refine h2 (fun r L' => r = .dat (e (f xs[i] s).1) ∧ L' = plus (Lf (f xs[i] s).2) D (acc.map e)) ⟨rfl, rfl⟩ σ3 H3 _ R3 exOk0 fun w r L5 H5 g5 k5 R5 o5 ⟨er, el⟩ => ?_
      subst er el
      obtain ⟨ys, ex, hxs⟩ := R5.led.isLst (List.mem_append_right _ List.mem_cons_self)
      have gg := ((g'.trans (g2.trans (g3.trans g5))).trans (grow_app (p := D) (acc := acc.map e) (acc' := acc.map e ++ [e (f xs[i] s).1]) (o := HO.lst (ys ++ [w]))))
      have la := R5.led.app ex o5
      have e6 : acc.map e ++ [e (f xs[i] s).1] = (acc ++ [(f xs[i] s).1]).map e := by
        rw [List.map_append]
        rfl
      rw [e6] at gg la
      refine ⟨ys, ex, by rw [rpAll_len hxs, List.length_map]; omega, hlt, ?_, ?_⟩
      · rw [em]
        exact gg
      · rw [em]
        exact la
    · have e2 : i = xs.length := by omega
      subst e2
      rw [List.take_length] at hs ha
      subst hs ha
      obtain ⟨ys, ex, hxs⟩ := l'.isLst (List.mem_append_right _ List.mem_cons_self)
      have l2 := l'.drop
      have g2 : Grow H1 (Lf s1) H' (Lf (mapS f xs s1).2) := ⟨g'.old, fun a ha => .inl (by rw [hks s1 (mapS f xs s1).2]; exact ha)⟩
      have k2 : Keeps (Lf s1) (Lf (mapS f xs s1).2) := fun a ha => by
        rw [hks _ s1]
        exact ha
      exact .inl ⟨js (by rw [List.length_map]), z (.ref D) (.dat (eL e (mapS f xs s1).1)) _ H' (g1.trans g2) (k1.trans k2) (R1.grow g2 k2 l2) (.lst (by rw [hid_out (hDn _)]; exact ex) (rpAll_mono ext_drop hxs)) q⟩
theorem ev_lcS {Lf : δ → Led} (hks : ∀ s s', (Lf s).ks = (Lf s').ks) {xs : List α} {g0 : α → PyData} {e : β → PyData} {f : α → δ → β × δ} {s1 : δ} (hi : EI C wi ε L (xs.map g0) (Lf s1)) (hz : xs.length < sizeLine)
    (hb : ∀ x ∈ xs, ∀ s acc p, p ∉ (Lf s).ks → ∃ ε2, EG (C0 C.K) g (.dat (g0 x)) (wipeE ε vs) (plus (Lf s) p acc) ε2 ∧ EV (C0 C.K) te ε2 (plus (Lf s) p acc) (.dat (e (f x s).1)) (plus (Lf (f x s).2) p acc))
    (ho : GOwn g vs) : EV C (tLc wi g tYes te vs) ε L (.dat (eL e (mapS f xs s1).1)) (Lf (mapS f xs s1).2) := fun k q => cp_lcS hks hi hz hb q ho
end
theorem ps_tryY {X : Cx} {Wout : WX} {i : Nat} {n x : Str} {c : Value} {body : List Stmt} {b₀ : Stmt} {suite : List Stmt} {np pos pos' : Pos} {tb : WX → TS} {ts : Addr → Value → Option Addr → TS} (hs : X.stack = X.env :: X.outer) (hf : X.env.frame = some X.env.locals) (hN : X.N.Nodup) (hi : X.N[i]? = some n) (hln : X.env.kindOf n = some .local) (hc : Names X x c) (tk : Takes X Wout)
    (hb : ∀ (W : WX) (pn : List (Addr × Obj)) (xe : Value → Shared → Prop), Takes (X.tr pn xe) W → PassesOwn (model X.prog X.w) X.A X.env xe → PSs (X.tr pn xe) body (tb W))
    (hsu : ∀ (a : Addr) (oe : Obj) (cls : Value) (d : Option Addr) (pn : List (Addr × Obj)), Zc cls d oe → (∃ vs, oe.data = .fields vs) → PSs (X.suite a ((a, oe) :: pn)) (b₀ :: suite) (ts a cls d)) :
    PS X (.Try body [.ExceptHandler (some (.Name x np)) (some n) (b₀ :: suite) pos'] [] [] pos) (tTryAs X.K c i tb ts Wout) := ps_try_as hs hf hN hi hln hc tk hb hsu
theorem inU {k : Nat} {A : Around} (r : Room k A) : A.in1.units + 64 < cLine := by
  have := r.un
  show A.units + 1 + 64 < _
  omega
/-! an item of a value of unknown kind -/
def isLT : PyData → Bool
  | .list _ => true
  | .tuple _ => true
  | _ => false
section
variable {C : Cz} {L : Led} {k : Rs → Led → Prop} {K : PySem.W.Frag}
theorem od_ixD {d : PyData} {i : Int} (h : isLT d = true) (h2 : okIx (itemsD d) i) (q : k (.dat (ix (itemsD d) i)) L) (hK : C.K = K := by rfl) : OD C (rIx K) (.dat d) (.dat (.int i)) L k := by
  have e : atI (itemsD d) i = some (ix (itemsD d) i) := by
    have := atI_ix h2 (fun x : PyData => x)
    rw [List.map_id'] at this
    exact this
  cases d with
  | list ds => exact od_ix_lst e q hK
  | tuple ds => exact od_ix_tup e q hK
  | _ => cases h
/-- equal to an empty list, an empty tuple -/
theorem eqv_nilL {α : Type} (e : α → PyData) (xs : List α) : PyData.eqv (eL e xs) (.list []) = xs.isEmpty := by
  cases xs <;> rfl
theorem eqv_nilT {α : Type} (e : α → PyData) (xs : List α) : PyData.eqv (eT e xs) (.tuple []) = xs.isEmpty := by
  cases xs <;> rfl
theorem okNilL : okEq (.list []) := ⟨by decide, rfl⟩
theorem okNilT : okEq (.tuple []) := ⟨by decide, rfl⟩
end
theorem fnX {P : Program} {w : World} {K : PySem.W.Frag} {mg : Str → Option Value} {base : Heap} {k : Nat} {f : Addr} {fd : FuncData} {ps : List Str} {sp : Sp} (F : FnOk P w K mg base CX0 k f fd ps sp) : FnOk P w K mg base (L2.CX P w) k f fd ps sp :=
  ⟨F.len, fun A outer s H args us vs Q E hr he hb hv hs => codeAny_mono (F.run A outer s H args us vs Q E hr he hb hv hs) fun r s' hq => by
    cases r with
    | ok fl => cases fl <;> exact hq
    | error e => exact hq.elim⟩
theorem hasX_of {P : Program} {w : World} {K : PySem.W.Frag} {mg : Str → Option Value} {base : Heap} {k : Nat} {x : Str} {ps : List Str} {d : DSp} (h : Has P w K mg base k x ps d) : HasX P w K mg base k x ps d := by
  obtain ⟨f, fd, a, b, c, F⟩ := h
  exact ⟨f, fd, a, b, c, fnX F⟩
theorem has_imp {P : Program} {w : World} {K : PySem.W.Frag} {mg : Str → Option Value} {base : Heap} {k : Nat} {x : Str} {ps : List Str} {d d' : DSp} (h : Has P w K mg base k x ps d) (i : ∀ rs L k x, d' rs L k x → d rs L k x) : Has P w K mg base k x ps d' := by
  obtain ⟨f, fd, a, b, c, F⟩ := h
  exact ⟨f, fd, a, b, c, F.imp fun vs H Q E ⟨rs, L, k, x, o, l, hd, z⟩ => ⟨rs, L, k, x, o, l, i _ _ _ _ hd, z⟩⟩
theorem hs_base {C : Cz} {t : TS} {ε : Ev} {L : Led} {P : Post} {p : Addr} {ds : List PyData} (hm : (p, .lst ds) ∈ L) (h : HS C t ε (up L p (.lst ds)) P) : HS C t ε L P := fun σ H D R X E => by
  have e : up L p (.lst ds) = L := up_self fun m' h' => R.led.uniq h' hm
  exact h σ H D (by rw [e]; exact R) (by rw [e]; exact X) (by rw [e]; exact E)
theorem fin1 {ρ : Type} {K : PySem.W.Frag} {ca : Nat → Addr} {enc : ρ → PyData} {Lf : ρ → Led} {L L1 : Led} {k : Rs → Led → Prop} {t : TS} {ε : Ev} {o : Ctl Unit Unit ρ} {X : Ev → Led → Prop} (hk : ∀ r, Keeps L (Lf r)) (A : AccR ca (run o) (fun r => k (.dat (enc r)) (Lf r)) fun _ => False)
    (h : HV ⟨C0 K, ca, RF enc Lf, X⟩ (fun _ _ _ => False) (fun _ _ _ => False) t ε L1 o) : HS (C0 K) t ε L1 (dPost L k) := h _ (by
  cases o with
  | nx s => exact A.elim
  | bad => exact A.elim
  | ct s => exact A.elim
  | bk s => exact A.elim
  | rt r => exact fun v L' hr => ⟨Lf r, _, hr.1, hr.2, hk r, A⟩
  | ex c => exact A.elim)
end Y

set_option Elab.async false
set_option linter.all false
set_option maxRecDepth 100000
set_option maxHeartbeats 2000000
/-! plain lemmas on ranges, items, slices -/
namespace Y
open PySem PySem.Spec PyProof.Rows L2 Z
def nI (C : List Nat) : List Int := C.map fun c : Nat => (c : Int)
theorem nI_len (C : List Nat) : (nI C).length = C.length := List.length_map _
theorem nI_app (a b : List Nat) : nI (a ++ b) = nI a ++ nI b := List.map_append
theorem nI_mem {C : List Nat} {c : Nat} : (c : Int) ∈ nI C ↔ c ∈ C := by
  unfold nI
  rw [List.mem_map]
  exact ⟨fun ⟨a, h, e⟩ => by rw [← Int.ofNat.inj e]; exact h, fun h => ⟨c, h, rfl⟩⟩
theorem nI_inj {a b : List Nat} (h : nI a = nI b) : a = b := by
  have := congrArg (List.map Int.toNat) h
  unfold nI at this
  rw [List.map_map, List.map_map] at this
  have e : (Int.toNat ∘ fun c : Nat => (c : Int)) = id := by
    funext c
    simp
  rw [e, List.map_id, List.map_id] at this
  exact this
theorem nI_of {cs : List Int} (h : ∀ c ∈ cs, 0 ≤ c) : nI (cs.map Int.toNat) = cs := by
  unfold nI
  rw [List.map_map]
  refine (List.map_congr_left fun c hc => ?_).trans (List.map_id cs)
  exact Int.toNat_of_nonneg (h c hc)
theorem rngI_nat (a b : Nat) : rngI (a : Int) (b : Int) = nI (List.range' a (b - a)) := by
  unfold rngI nI
  rw [List.range'_eq_map_range, List.map_map, show ((b : Int) - (a : Int)).toNat = b - a by omega]
  refine List.map_congr_left fun i _ => ?_
  show (a : Int) + (i : Int) = ((a + i : Nat) : Int)
  omega
theorem rngI_zero (b : Nat) : rngI 0 (b : Int) = nI (List.range b) := by
  have := rngI_nat 0 b
  rw [Nat.sub_zero, ← List.range_eq_range'] at this
  exact this
theorem rngI_mem {lo hi x : Int} : x ∈ rngI lo hi ↔ lo ≤ x ∧ x < hi := by
  unfold rngI
  rw [List.mem_map]
  constructor
  · rintro ⟨i, hi', rfl⟩
    have := List.mem_range.mp hi'
    omega
  · rintro ⟨h1, h2⟩
    exact ⟨(x - lo).toNat, List.mem_range.mpr (by omega), by omega⟩
theorem rngI_len (lo hi : Int) : (rngI lo hi).length = (hi - lo).toNat := by
  unfold rngI
  rw [List.length_map, List.length_range]
theorem rngI_get {lo hi : Int} {i : Nat} {x : Int} (h : (rngI lo hi)[i]? = some x) : x = lo + (i : Int) ∧ (i : Int) < hi - lo := by
  unfold rngI at h
  rw [List.getElem?_map] at h
  by_cases hl : i < (hi - lo).toNat
  · rw [List.getElem?_range hl] at h
    cases h
    exact ⟨rfl, by omega⟩
  · rw [List.getElem?_eq_none (by rw [List.length_range]; omega)] at h
    cases h
theorem rngI_nil {lo hi : Int} (h : hi ≤ lo) : rngI lo hi = [] := by
  unfold rngI
  rw [show (hi - lo).toNat = 0 by omega]
  rfl
theorem bnd_of {n : Int} (h : -1000000000000000000 ≤ n ∧ n ≤ 1000000000000000000) : bnd n := ⟨by omega, by omega⟩
theorem enumI_eq {α : Type} (xs : List α) : enumI xs = xs.zipIdx.map fun p => ((p.2 : Int), p.1) := rfl
theorem enumI_get {α : Type} {xs : List α} {i : Nat} {p : Int × α} (h : (enumI xs)[i]? = some p) : p.1 = (i : Int) ∧ xs[i]? = some p.2 := by
  unfold enumI at h
  rw [List.getElem?_map, List.getElem?_zipIdx] at h
  cases e : xs[i]? with
  | none =>
    rw [e] at h
    cases h
  | some x =>
    rw [e] at h
    cases h
    exact ⟨by show ((0 + i : Nat) : Int) = i; omega, rfl⟩
theorem enumI_len {α : Type} (xs : List α) : (enumI xs).length = xs.length := by
  unfold enumI
  rw [List.length_map, List.length_zipIdx]
section
variable {α : Type}
theorem okIx_nat {xs : List α} {k : Nat} (h : k < xs.length) : okIx xs (k : Int) := by
  have e : atI xs (k : Int) = some xs[k] := atI_nat (List.getElem?_eq_getElem h)
  show (atI xs _).isSome = true
  rw [e]
  rfl
theorem okIx_int {xs : List α} {i : Int} (h0 : 0 ≤ i) (h : i < xs.length) : okIx xs i := by
  have e : i = ((i.toNat : Nat) : Int) := (Int.toNat_of_nonneg h0).symm
  rw [e]
  exact okIx_nat (by omega)
theorem ix_nat [Inhabited α] {xs : List α} {k : Nat} {x : α} (h : xs[k]? = some x) : ix xs (k : Int) = x := by
  unfold ix
  rw [atI_nat h]
  rfl
theorem ix_int [Inhabited α] {xs : List α} {i : Int} {x : α} (h0 : 0 ≤ i) (h : xs[i.toNat]? = some x) : ix xs i = x := by
  have e : i = ((i.toNat : Nat) : Int) := (Int.toNat_of_nonneg h0).symm
  rw [e]
  exact ix_nat h
theorem okIx_last {xs : List α} (h : xs ≠ []) : okIx xs (-1) := by
  have e : xs[xs.length - 1]? = some (xs.getLast h) := by
    rw [← List.getLast?_eq_getElem?, List.getLast?_eq_some_getLast h]
  show (atI xs _).isSome = true
  rw [at_last e]
  rfl
theorem ix_last [Inhabited α] {xs : List α} (h : xs ≠ []) : ix xs (-1) = xs.getLast h := by
  have e : xs[xs.length - 1]? = some (xs.getLast h) := by
    rw [← List.getLast?_eq_getElem?, List.getLast?_eq_some_getLast h]
  unfold ix
  rw [at_last e]
  rfl
theorem cut_tail (l : List α) : Z.cutD l (some 1) none = l.drop 1 := by
  unfold Z.cutD
  rw [HT.sIx_none]
  have e : HT.sIx l.length 0 (some 1) = min 1 l.length := HT.sIx_nat l.length 0 1
  rw [e]
  cases l with
  | nil => rfl
  | cons a r =>
    rw [Nat.min_eq_left (by simp)]
    rw [List.take_of_length_le (by rw [List.length_drop]; omega)]
theorem cut_nat (l : List α) (a b : Nat) (ha : a ≤ l.length) (hb : b ≤ l.length) : Z.cutD l (some (a : Int)) (some (b : Int)) = (l.drop a).take (b - a) := by
  unfold Z.cutD
  rw [HT.sIx_nat, HT.sIx_nat, Nat.min_eq_left ha, Nat.min_eq_left hb]
theorem cut_to (l : List α) (b : Nat) : Z.cutD l none (some (b : Int)) = l.take b := by
  unfold Z.cutD
  rw [HT.sIx_none, HT.sIx_nat, List.drop_zero, Nat.sub_zero]
  by_cases h : b ≤ l.length
  · rw [Nat.min_eq_left h]
  · rw [Nat.min_eq_right (by omega), List.take_length, List.take_of_length_le (by omega)]
theorem cut_from (l : List α) (a : Nat) : Z.cutD l (some (a : Int)) none = l.drop a := by
  unfold Z.cutD
  rw [HT.sIx_none, HT.sIx_nat]
  by_cases h : a ≤ l.length
  · rw [Nat.min_eq_left h, List.take_of_length_le (by rw [List.length_drop]; omega)]
  · rw [Nat.min_eq_right (by omega), List.drop_length, List.drop_of_length_le (by omega)]
    simp
theorem cut_le (l : List α) (lo hi : Option Int) : (Z.cutD l lo hi).length ≤ l.length := by
  unfold Z.cutD
  rw [List.length_take, List.length_drop]
  omega
theorem filter_isEmpty {p : α → Bool} {l : List α} : (l.filter p).isEmpty = l.all fun x => !p x := by
  induction l with
  | nil => rfl
  | cons a r ih =>
    rw [List.filter_cons, List.all_cons]
    cases h : p a with
    | true => rfl
    | false =>
      rw [if_neg (by decide), ih]
      rfl
theorem map_same (l : List α) : (l.map fun x : α => x) = l := List.map_id l
/-- two lists side by side -/
theorem all_of {p : α → Bool} {l : List α} (h : ∀ x ∈ l, p x = true) : l.all p = true := List.all_eq_true.mpr h
end
theorem asc_all {ns : List Int} : ((ns.zip (ns.drop 1)).all fun p => decide (p.1 < p.2)) = true ↔ ns.Pairwise (· < ·) := by
  rw [List.all_eq_true]
  induction ns with
  | nil => simp
  | cons a r ih =>
    cases r with
    | nil => simp
    | cons b t =>
      have e : (a :: b :: t).zip ((a :: b :: t).drop 1) = (a, b) :: ((b :: t).zip ((b :: t).drop 1)) := rfl
      rw [e]
      constructor
      · intro h
        have h1 : a < b := of_decide_eq_true (h (a, b) List.mem_cons_self)
        have h2 := ih.mp fun x hx => h x (List.mem_cons_of_mem _ hx)
        refine List.pairwise_cons.mpr ⟨fun z hz => ?_, h2⟩
        rcases List.mem_cons.mp hz with q | q
        · rw [q]
          exact h1
        · exact Int.lt_trans h1 ((List.pairwise_cons.mp h2).1 z q)
      · intro h
        obtain ⟨h1, h2⟩ := List.pairwise_cons.mp h
        intro x hx
        rcases List.mem_cons.mp hx with q | q
        · rw [q]
          exact decide_eq_true (h1 b List.mem_cons_self)
        · exact ih.mpr h2 x q
/-- an integer within bounds, no truth value -/
def wi (v : PyData) (lo hi : Int) : Bool := match v with
  | .int i => decide (lo ≤ i) && decide (i ≤ hi)
  | _ => false
theorem wi_int {i lo hi : Int} : wi (.int i) lo hi = true ↔ lo ≤ i ∧ i ≤ hi := by
  show (decide (lo ≤ i) && decide (i ≤ hi)) = true ↔ _
  rw [Bool.and_eq_true, decide_eq_true_eq, decide_eq_true_eq]
section
variable {α : Type} (t : Ty α)
@[simp] theorem ty_p (a : α) : t.p (t.e a) = true := t.pe a
@[simp] theorem ty_f (a : α) : t.f (t.e a) = a := t.fe a
end
@[simp] theorem tyI_p (i : Int) : tyI.p (eI i) = true := rfl
@[simp] theorem tyI_f (i : Int) : tyI.f (eI i) = i := rfl
@[simp] theorem tyTI_p (xs : List Int) : (tyT tyI).p (eT eI xs) = true := (tyT tyI).pe xs
@[simp] theorem tyTI_f (xs : List Int) : (tyT tyI).f (eT eI xs) = xs := (tyT tyI).fe xs
theorem all_lt {n : Nat} {a b : List Nat} : a.length = b.length → a = b → True := fun _ _ => trivial
/-- what a loop's turn gives is known: the fold's value -/
theorem forC_fold {α σ l ρ : Type} {xs : List α} {s0 : σ} {f : α → σ → Ctl σ σ ρ} (v : Nat → σ) (h0 : s0 = v 0) (h : ∀ i x, xs[i]? = some x → f x (v i) = .nx (v (i + 1))) : (forC xs s0 f : Ctl σ l ρ) = .nx (v xs.length) := by
  obtain ⟨s', e, q⟩ := forC_inv (l := l) (xs := xs) (s0 := s0) (f := f) (fun i s => s = v i) h0 fun i x s hx hs => ⟨v (i + 1), .inl (by rw [hs]; exact h i x hx), rfl⟩
  rw [e, q]
/-- a loop that only looks -/
theorem forC_unit {α l ρ : Type} {xs : List α} {f : α → Unit → Ctl Unit Unit ρ} (h : ∀ x ∈ xs, f x () = .nx ()) : (forC xs () f : Ctl Unit l ρ) = .nx () :=
  forC_fold (fun _ => ()) rfl fun i x hx => h x (List.mem_of_getElem? hx)
/-- a loop whose state doesn't matter -/
theorem forC_any {α σ l ρ : Type} {xs : List α} {s0 : σ} {f : α → σ → Ctl σ σ ρ} (h : ∀ x ∈ xs, ∀ s, ∃ s', f x s = .nx s') : ∃ s', (forC xs s0 f : Ctl σ l ρ) = .nx s' := by
  obtain ⟨s', e, _⟩ := forC_inv (l := l) (xs := xs) (s0 := s0) (f := f) (fun _ _ => True) trivial fun i x s hx _ => by
    obtain ⟨s', e⟩ := h x (List.mem_of_getElem? hx) s
    exact ⟨s', .inl e, trivial⟩
  exact ⟨s', e⟩
theorem same_ok {d : PyData} (h : okD 8 d) : m__law_same d d = .ok true := by
  unfold m__law_same
  rw [if_pos ⟨rfl, h⟩]
end Y
namespace Y
open PySem PySem.Spec PyProof.Rows L2 Z
/-- neighbours, by their places and side by side -/
theorem pairs_rng {α : Type} [Inhabited α] (ms : List α) : (rngI 0 ((ms.length : Int) - 1)).map (fun k => (ix ms k, ix ms (k + 1))) = ms.zip (ms.drop 1) := by
  apply List.ext_getElem?
  intro i
  rw [List.getElem?_map]
  by_cases h : i + 1 < ms.length
  · have e : (rngI 0 ((ms.length : Int) - 1))[i]? = some (0 + (i : Int)) := by
      unfold rngI
      rw [List.getElem?_map, List.getElem?_range (by omega)]
      rfl
    have e1 : ms[i]? = some ms[i] := List.getElem?_eq_getElem (by omega)
    have e2 : ms[i + 1]? = some ms[i + 1] := List.getElem?_eq_getElem h
    rw [e]
    show some (ix ms (0 + (i : Int)), ix ms (0 + (i : Int) + 1)) = _
    rw [Int.zero_add, ix_nat e1, show ((i : Int) + 1) = ((i + 1 : Nat) : Int) by omega, ix_nat e2]
    refine (List.getElem?_zip_eq_some.mpr ⟨e1, ?_⟩).symm
    rw [List.getElem?_drop, Nat.add_comm, e2]
  · have e : (rngI 0 ((ms.length : Int) - 1))[i]? = none := List.getElem?_eq_none (by rw [rngI_len]; omega)
    rw [e]
    symm
    exact List.getElem?_eq_none (by rw [List.length_zip, List.length_drop]; omega)
theorem pairs_filter {α : Type} [Inhabited α] (ms : List α) (p : α → α → Bool) : ((rngI 0 ((ms.length : Int) - 1)).filter fun k => p (ix ms k) (ix ms (k + 1))).isEmpty = (ms.zip (ms.drop 1)).all fun q => !p q.1 q.2 := by
  rw [filter_isEmpty, ← pairs_rng ms, List.all_map]
  rfl
theorem pairs_ok {α : Type} {ms : List α} : ∀ x ∈ rngI 0 ((ms.length : Int) - 1), okIx ms x ∧ okIx ms (x + 1) := fun x hx => by
  obtain ⟨h1, h2⟩ := rngI_mem.mp hx
  exact ⟨okIx_int h1 (by omega), okIx_int (by omega) (by omega)⟩
theorem okD_int8 : ∀ (n : Nat) (i : Int), okD n (.int i) := okD_int
theorem okD_L {α : Type} {e : α → PyData} {n : Nat} {xs : List α} (h : xs.length ≤ 1000000) (h2 : ∀ x ∈ xs, okD n (e x)) : okD (n + 1) (eL e xs) := ⟨by rw [List.length_map]; exact h, fun d hd => by
  obtain ⟨x, hx, rfl⟩ := List.mem_map.mp hd
  exact h2 x hx⟩
theorem okD_T {α : Type} {e : α → PyData} {n : Nat} {xs : List α} (h : xs.length ≤ 1000000) (h2 : ∀ x ∈ xs, okD n (e x)) : okD (n + 1) (eT e xs) := ⟨by rw [List.length_map]; exact h, fun d hd => by
  obtain ⟨x, hx, rfl⟩ := List.mem_map.mp hd
  exact h2 x hx⟩
theorem usort_id {xs : List Int} (h : xs.Pairwise (· < ·)) : usort xs = xs := asc_uniq (usort_asc xs) h fun _ => usort_mem
theorem insU_len (x : Int) : ∀ l : List Int, (insU x l).length ≤ l.length + 1
  | [] => by simp [insU]
  | y :: r => by
    have := insU_len x r
    unfold insU
    split
    · simp
    · split
      · simp
      · simp only [List.length_cons]
        omega
theorem usort_len : ∀ l : List Int, (usort l).length ≤ l.length
  | [] => Nat.le_refl _
  | y :: r => by
    have h := usort_len r
    have := insU_len y (usort r)
    show (insU y (usort r)).length ≤ _
    rw [List.length_cons]
    omega
end Y

set_option Elab.async false
set_option linter.all false
set_option maxRecDepth 100000
set_option maxHeartbeats 2000000
/-! what an outcome satisfies -/
namespace Y
section
variable {σ τ l ρ α : Type}
/-- N: behind the end, C: continue, B: break, R: the answer, X: an error -/
structure Po (σ l ρ : Type) where
  N : σ → Prop
  C : l → Prop
  B : l → Prop
  R : ρ → Prop
  X : Nat → Prop
def Sat (P : Po σ l ρ) : Ctl σ l ρ → Prop
  | .bad => False
  | .nx s => P.N s
  | .ct s => P.C s
  | .bk s => P.B s
  | .rt r => P.R r
  | .ex c => P.X c
variable {P : Po σ l ρ} {o o1 o2 : Ctl σ l ρ}
theorem sat_nx {s : σ} (h : P.N s) : Sat P (.nx s) := h
theorem sat_ct {s : l} (h : P.C s) : Sat P (.ct s) := h
theorem sat_bk {s : l} (h : P.B s) : Sat P (.bk s) := h
theorem sat_rt {s : ρ} (h : P.R s) : Sat P (.rt s) := h
theorem sat_ex {c : Nat} (h : P.X c) : Sat P (.ex c) := h
theorem sat_grd {p : Prop} (hp : p) (h : Sat P o) : Sat P (grd p o) := by
  rw [grd_pos hp]
  exact h
theorem sat_lt {v : α} {q : α → Ctl σ l ρ} (h : Sat P (q v)) : Sat P (lt v q) := h
theorem sat_if {b : Bool} (h1 : b = true → Sat P o1) (h2 : b = false → Sat P o2) : Sat P (bif b then o1 else o2) := by
  cases b with
  | true => exact h1 rfl
  | false => exact h2 rfl
theorem sat_t {b : Bool} (hb : b = true) (h : Sat P o1) : Sat P (bif b then o1 else o2) := by
  rw [hb]
  exact h
theorem sat_f {b : Bool} (hb : b = false) (h : Sat P o2) : Sat P (bif b then o1 else o2) := by
  rw [hb]
  exact h
theorem sat_bind {o : Ctl τ l ρ} {q : τ → Ctl σ l ρ} (h : Sat { P with N := fun s => Sat P (q s) } o) : Sat P (o.bind q) := by
  cases o <;> exact h
theorem sat_bindI {o : Ctl τ l ρ} {q : τ → Ctl σ l ρ} (I : τ → Prop) (h : Sat { P with N := I } o) (h2 : ∀ s, I s → Sat P (q s)) : Sat P (o.bind q) := by
  cases o with
  | nx s => exact h2 s h
  | _ => exact h
theorem sat_call {r : Res α} {q : α → Ctl σ l ρ} {a : α} (e : r = .ok a) (h : Sat P (q a)) : Sat P (callC r q) := by
  rw [e]
  exact h
theorem sat_for {xs : List α} {s0 : σ} {f : α → σ → Ctl σ σ ρ} (I : Nat → σ → Prop) (h0 : I 0 s0) (hs : ∀ i x s, xs[i]? = some x → I i s → Sat ⟨I (i + 1), I (i + 1), P.N, P.R, P.X⟩ (f x s)) (he : ∀ s, I xs.length s → P.N s) : Sat P (forC xs s0 f) := by
  induction xs generalizing s0 I with
  | nil => exact he _ h0
  | cons a r ih =>
    have h := hs 0 a s0 rfl h0
    unfold forC
    cases e : f a s0 with
    | bad => rw [e] at h; exact h
    | nx s => rw [e] at h; exact ih (fun i => I (i + 1)) h (fun i x s hx hi => hs (i + 1) x s (by simpa using hx) hi) he
    | ct s => rw [e] at h; exact ih (fun i => I (i + 1)) h (fun i x s hx hi => hs (i + 1) x s (by simpa using hx) hi) he
    | bk s => rw [e] at h; exact h
    | rt r => rw [e] at h; exact h
    | ex c => rw [e] at h; exact h
/-- by what holds of the state at any turn -/
theorem sat_forA {xs : List α} {s0 : σ} {f : α → σ → Ctl σ σ ρ} (I : σ → Prop) (h0 : I s0) (hs : ∀ x ∈ xs, ∀ s, I s → Sat ⟨I, I, P.N, P.R, P.X⟩ (f x s)) (he : ∀ s, I s → P.N s) : Sat P (forC xs s0 f) :=
  sat_for (fun _ => I) h0 (fun i x s hx => hs x (List.mem_of_getElem? hx) s) he
theorem sat_while {f : σ → Ctl σ σ ρ} {s0 : σ} (I : σ → Prop) (μ : σ → Nat) (hs : ∀ s, I s → Sat ⟨fun s' => I s' ∧ μ s' < μ s, fun s' => I s' ∧ μ s' < μ s, P.N, P.R, P.X⟩ (f s)) : ∀ {n : Nat} {s0 : σ}, I s0 → μ s0 < n → Sat P (whileC f n s0)
  | 0, _, _, hn => absurd hn (Nat.not_lt_zero _)
  | n + 1, s0, hi, hn => by
    have h := hs s0 hi
    unfold whileC
    cases e : f s0 with
    | bad => rw [e] at h; exact h
    | nx s => rw [e] at h; exact sat_while (s0 := s0) I μ hs h.1 (by have := h.2; omega)
    | ct s => rw [e] at h; exact sat_while (s0 := s0) I μ hs h.1 (by have := h.2; omega)
    | bk s => rw [e] at h; exact h
    | rt r => rw [e] at h; exact h
    | ex c => rw [e] at h; exact h
theorem run_sat {o : Ctl Unit Unit ρ} {v : ρ} (h : Sat ⟨fun _ => False, fun _ => False, fun _ => False, fun r => r = v, fun _ => False⟩ o) : run o = .ok v := by
  cases o with
  | rt r =>
    have h : r = v := h
    rw [h]
    rfl
  | _ => exact h.elim
/-- what a def answers, by a predicate -/
theorem run_satE {o : Ctl Unit Unit ρ} {R : ρ → Prop} (h : Sat ⟨fun _ => False, fun _ => False, fun _ => False, R, fun _ => False⟩ o) : ∃ v, run o = .ok v ∧ R v := by
  cases o with
  | rt r => exact ⟨r, rfl, h⟩
  | _ => exact h.elim
end
end Y

set_option Elab.async false
set_option linter.all false
set_option maxRecDepth 100000
set_option maxHeartbeats 2000000
/-! sets of texts and of whole numbers that are walked or counted: set(xs) of a list or a tuple, len(..), sorted(..) -/
namespace Y
open PySem PySem.Spec PyProof.Rows L2 Z
/-- each once, in the order of the last ones -/
def onceL {κ : Type} [DecidableEq κ] (l : List κ) (x : κ) : List κ := if x ∈ l then l else x :: l
def onceAll {κ : Type} [DecidableEq κ] (xs : List κ) : List κ := xs.foldl onceL []
theorem onceL_mem {κ : Type} [DecidableEq κ] {l : List κ} {x z : κ} : z ∈ onceL l x ↔ z ∈ l ∨ z = x := by
  unfold onceL
  split
  · rename_i h
    exact ⟨.inl, fun q => q.elim id fun e => e ▸ h⟩
  · rw [List.mem_cons]
    exact Or.comm
theorem onceL_nodup {κ : Type} [DecidableEq κ] {l : List κ} {x : κ} (h : l.Nodup) : (onceL l x).Nodup := by
  unfold onceL
  split
  · exact h
  · rename_i q
    exact List.nodup_cons.mpr ⟨q, h⟩
theorem onceF_mem {κ : Type} [DecidableEq κ] {z : κ} : ∀ {xs l : List κ}, z ∈ xs.foldl onceL l ↔ z ∈ l ∨ z ∈ xs
  | [], l => by simp
  | x :: r, l => by
    rw [List.foldl_cons, onceF_mem, onceL_mem, List.mem_cons, or_assoc]
theorem onceF_nodup {κ : Type} [DecidableEq κ] : ∀ {xs l : List κ}, l.Nodup → (xs.foldl onceL l).Nodup
  | [], _, h => h
  | x :: r, l, h => by
    rw [List.foldl_cons]
    exact onceF_nodup (onceL_nodup h)
theorem onceF_len {κ : Type} [DecidableEq κ] : ∀ {xs l : List κ}, (xs.foldl onceL l).length ≤ l.length + xs.length
  | [], _ => Nat.le_refl _
  | x :: r, l => by
    rw [List.foldl_cons, List.length_cons]
    have h := onceF_len (xs := r) (l := onceL l x)
    have : (onceL l x).length ≤ l.length + 1 := by
      unfold onceL
      split
      · exact Nat.le_succ _
      · exact Nat.le_refl _
    omega
theorem once_mem {κ : Type} [DecidableEq κ] {z : κ} {xs : List κ} : z ∈ onceAll xs ↔ z ∈ xs := onceF_mem.trans ⟨fun h => h.elim (fun q => by cases q) id, .inr⟩
theorem once_nodup {κ : Type} [DecidableEq κ] (xs : List κ) : (onceAll xs).Nodup := onceF_nodup .nil
theorem once_len {κ : Type} [DecidableEq κ] (xs : List κ) : (onceAll xs).length ≤ xs.length := by
  have := onceF_len (xs := xs) (l := [])
  rwa [List.length_nil, Nat.zero_add] at this
section
variable {pr : Program} {wd : World} {κ : Type} [DecidableEq κ] [Nonempty κ] (kd : KeyKind pr wd κ)
noncomputable def keyG (e : Int × Value) : κ := Classical.epsilon fun q => kd.is q e.2 = true
theorem keyG_is {e : Int × Value} {q : κ} (h : kd.is q e.2 = true) : keyG kd e = q := kd.inj e.2 _ _ (Classical.epsilon_spec (p := fun q => kd.is q e.2 = true) ⟨q, h⟩) h
/-- the set at a holds the keys l, each once -/
def SetG (hp : Heap) (a : Addr) (l : List κ) : Prop :=
  ∃ ob rows ep tb, hp.get? a = some ob ∧ ob.ExactSet ∧ ob.data = .set rows ep tb ∧ ElemsOf kd rows.toList ∧ (rows.toList.map (keyG kd)).Perm l ∧ l.Nodup ∧
    rows.size < scanBound ∧ tb.fits rows.size = true ∧ Ris tb.place.toList ∧ (wd.params.followText "set-order" = true ∨ tb.led = true)
variable {kd} {hp hp' : Heap} {a : Addr} {l l' : List κ}
theorem SetG.at (R : SetG kd hp a l) (z : ∀ u, hp.get? a = some u → hp'.get? a = some u) : SetG kd hp' a l := by
  obtain ⟨u, rows, ep, tb, e, more⟩ := R
  exact ⟨u, rows, ep, tb, z u e, more⟩
theorem SetG.lt (R : SetG kd hp a l) : a < hp.objs.size := let ⟨_, _, _, _, e, _⟩ := R; Heap.lt_size e
theorem SetG.ob (R : SetG kd hp a l) : ∃ u, hp.get? a = some u := let ⟨u, _, _, _, e, _⟩ := R; ⟨u, e⟩
theorem SetG.small (R : SetG kd hp a l) : l.length < scanBound := by
  obtain ⟨_, rows, _, _, _, _, _, _, pm, _, hb, _⟩ := R
  rw [← pm.length_eq, List.length_map, Array.length_toList]
  exact hb
variable {A : Around} {E : Value → Shared → Prop} {s : Shared}
theorem setG_tail {gf : Bool → Sem Unit} (hgf : ∀ (b : Bool) (s1 : Shared) (Q1 : Unit → Shared → Prop), Q1 () s1 → wpAny (model pr wd) A (gf b) Q1 E s1)
    {ob : Obj} {rows rows1 : Array (Int × Value)} {ep : Nat} {tb tb2 : SetTable} (hob : s.heap.get? a = some ob) (hx : ob.ExactSet) (hdt : ob.data = .set rows ep tb)
    (el : ElemsOf kd rows1.toList) (pm : (rows1.toList.map (keyG kd)).Perm l) (nd : l.Nodup) (hsz : rows1.size < scanBound) (hfit : tb2.fits rows1.size = true) (hris : Ris tb2.place.toList)
    (hled : wd.params.followText "set-order" = true ∨ tb2.led = true) {dm : Bool} {R : Option Bool → Shared → Prop} (hR : ∀ hp', Heap.SameBut a s.heap hp' → SetG kd hp' a l → R (some true) { s with heap := hp' }) :
    wpAny (model pr wd) A (do
      storeSet a rows1 tb2
      if (!dm && tb2.tooFull) = true then do
          gf (relayAll tb2 rows1 (SetTable.grown rows1.size)).2.2
          storeSet a (relayAll tb2 rows1 (SetTable.grown rows1.size)).1 (relayAll tb2 rows1 (SetTable.grown rows1.size)).2.1
          pure (some true)
        else pure (some true)) R E s := by
  refine wpAny_bind (wpAny_storeSet_of hob hdt ?_ (fits_of_scanBound hsz))
  have hob1 := store_at (es' := rows1) (t' := tb2) hob hdt
  have same1 := Heap.SameBut.update s.heap a (Obj.putSet rows1 tb2)
  by_cases full : (!dm && tb2.tooFull) = true
  · rw [if_pos full]
    have q1 := relayAll_perm tb2 rows1 (SetTable.grown rows1.size)
    have q2 := relayAll_fits tb2 rows1 (SetTable.grown rows1.size)
    have q3 := relayAll_ris tb2 rows1 (SetTable.grown rows1.size)
    have q4 := relayAll_led tb2 rows1 (SetTable.grown rows1.size)
    generalize relayAll tb2 rows1 (SetTable.grown rows1.size) = Y at q1 q2 q3 q4 ⊢
    obtain ⟨rows2, tb3, gv⟩ := Y
    dsimp only at q1 q2 q3 q4 ⊢
    have z : rows2.size < scanBound := by rw [← Array.length_toList, q1.length_eq, Array.length_toList]; exact hsz
    refine wpAny_bind (hgf _ _ _ (wpAny_bind (wpAny_storeSet_of hob1 rfl (wpAny_pure (hR _ (same1.trans (Heap.SameBut.update _ a _)) ?_)) (fits_of_scanBound z))))
    exact ⟨_, rows2, _, tb3, store_at (es' := rows2) (t' := tb3) hob1 rfl, hx, rfl, el.perm q1, (q1.map _).trans pm, nd, z, q2, q3, hled.imp id fun y => by rw [q4]; exact y⟩
  · rw [if_neg full]
    exact wpAny_pure (hR _ same1 ⟨_, rows1, _, tb2, hob1, hx, rfl, el, pm, nd, hsz, hfit, hris, hled⟩)
theorem setG_add {q : κ} {v : Value} {Q : Bool → Shared → Prop} (R : SetG kd s.heap a l) (hv : kd.is q v = true) (hsc : v.scannable = true) (room : l.length + 1 < scanBound)
    (hQ : ∀ b hp', Heap.SameBut a s.heap hp' → SetG kd hp' a (onceL l q) → Q b { s with heap := hp' }) : wpAny (model pr wd) A (setAddHashed a v (kd.hash q)) Q E s := by
  obtain ⟨ob, rows, ep, tb, hob, hx, hdt, el, pm, nd, hb, hfit, hris, hled⟩ := R
  have hsize : rows.size = l.length := by rw [← pm.length_eq, List.length_map, Array.length_toList]
  have mem : q ∈ l ↔ ∃ e ∈ rows.toList, kd.is q e.2 = true := by
    rw [← pm.mem_iff, List.mem_map]
    constructor
    · rintro ⟨e, he, z⟩
      obtain ⟨⟨q0, h0, _⟩, _⟩ := el e he
      have := keyG_is kd h0
      exact ⟨e, he, by rw [← z, this]; exact h0⟩
    · rintro ⟨e, he, z⟩
      exact ⟨e, he, keyG_is kd z⟩
  unfold setAddHashed setAddHashedIn
  refine wpAny_holding (wpAny_bind (wpAny_setState_of hob hdt hfit ?_))
  dsimp only
  rw [byScan_of hsc hb el, if_pos rfl]
  unfold setAddByScan
  refine wpAny_bind (wpAny_bind (wpAny_rule (wpAny_bind (wpAny_setScan_of hv hob hdt hfit el ?_))))
  cases hfi : List.findIdx? (fun e => kd.is q e.2) rows.toList with
  | some j =>
    obtain ⟨hj, pj, _⟩ := List.findIdx?_eq_some_iff_getElem.mp hfi
    have hin : q ∈ l := mem.mpr ⟨_, List.getElem_mem hj, pj⟩
    exact wpAny_pure (wpAny_pure (hQ _ s.heap (Heap.SameBut.refl a s.heap) ⟨ob, rows, ep, tb, hob, hx, hdt, el, by unfold onceL; rw [if_pos hin]; exact pm, onceL_nodup nd, hb, hfit, hris, hled⟩))
  | none =>
    have hout : q ∉ l := fun z => by
      obtain ⟨e, he, y⟩ := mem.mp z
      have := List.findIdx?_eq_none_iff.mp hfi e he
      rw [y] at this
      cases this
    have quiet : ∀ (b : Bool) (s1 : Shared) (Q1 : Unit → Shared → Prop), Q1 () s1 → wpAny (model pr wd) A (match b with | true => rule "set.scan.the-table-gave-way" | false => pure ()) Q1 E s1 :=
      fun b s1 Q1 y => by cases b with
        | true => exact wpAny_rule y
        | false => exact wpAny_pure y
    have z1 := layNew_perm tb rows (kd.hash q) v
    have z2 := layNew_fits tb rows (kd.hash q) v
    have z3 := layNew_ris tb rows (kd.hash q) v hris
    have z4 := layNew_led tb rows (kd.hash q) v
    dsimp only
    generalize layNew tb rows (kd.hash q) v = Y at z1 z2 z3 z4 ⊢
    obtain ⟨rows1, tb1, dm, gv⟩ := Y
    dsimp only at z1 z2 z3 z4 ⊢
    rw [Array.toList_push] at z1
    have el1 : ElemsOf kd rows1.toList := (el.push hv hsc).perm z1
    have pm1 : (rows1.toList.map (keyG kd)).Perm (onceL l q) := by
      unfold onceL
      rw [if_neg hout]
      refine (z1.map _).trans ?_
      rw [List.map_append, List.map_cons, List.map_nil, keyG_is kd (e := (kd.hash q, v)) hv]
      exact (List.perm_append_singleton _ _).trans (.cons _ pm)
    have hs1 : rows1.size < scanBound := by
      rw [← Array.length_toList, z1.length_eq, List.length_append, Array.length_toList, hsize]
      exact room
    have led1 : wd.params.followText "set-order" = true ∨ tb1.led = true := hled.imp id fun y => by rw [z4]; exact y
    refine wpAny_bind (quiet _ _ _ ?_)
    split
    · refine wpAny_bind ?_
      rw [hashByValue_scannable 8 hsc]
      refine wpAny_pure (setG_tail (l := onceL l q) quiet hob hx hdt el1 pm1 (onceL_nodup nd) hs1 ?_ ?_ ?_ fun hp' sb G => wpAny_pure (hQ _ hp' sb G))
      · split
        · exact SetTable.fits_plain_off z2
        · exact z2
      · split
        · exact z3
        · exact z3
      · split
        · exact led1
        · exact led1
    · refine wpAny_bind (wpAny_pure ?_)
      rw [if_pos rfl]
      exact setG_tail (l := onceL l q) quiet hob hx hdt el1 pm1 (onceL_nodup nd) hs1 z2 z3 led1 fun hp' sb G => wpAny_pure (hQ _ hp' sb G)

/-! ### set(xs) -/
theorem setG_loop {I : Addr} {fp wr : List Addr} {Gn : Array GenState → Array GenState → Prop} {n : Nat} {Pv : Nat → Value → Prop} {St : Nat → Shared → Prop} {R : Result → Shared → Prop}
    (W : WalksS pr wd A.in1 I fp wr Gn n Pv St) {a : Addr} (ha : a ∉ fp) {xs : List κ} (hn : n = xs.length) (hb : xs.length + 1 < scanBound)
    (hv : ∀ i v, Pv i v → ∃ q, xs[i]? = some q ∧ kd.is q v = true ∧ v.scannable = true) :
    ∀ (d i : Nat) (s : Shared), n - i = d → i ≤ n → St i s → SetG kd s.heap a ((xs.take i).foldl onceL []) →
      (∀ s', Moved (a :: wr) Gn s s' → SetG kd s'.heap a (onceAll xs) → R (.ok (.ret .none)) s') → codeAny (model pr wd) A (.builtin "set.update.loop" ⟨[.ref a, .ref I], []⟩) R s := by
  have haw : a ∉ wr := fun z => ha (W.sub _ z)
  have wide : ∀ b ∈ wr, b ∈ a :: wr := fun b z => List.mem_cons_of_mem _ z
  intro d
  induction d with
  | zero =>
    intro i s hd hi hst hG hR
    obtain rfl : i = n := by omega
    refine codeAny_builtin F.entry_set_update_loop ?_
    rw [Around.under_plainId F.plain_set_update_loop _]
    show wpAny _ A.in1 (pyNext (.ref I) >>= _) _ _ _
    refine wpAny_bind (W.done s _ _ hst fun s' mv => ?_)
    rw [List.take_of_length_le (by omega)] at hG
    exact wpAny_pure (hR s' (mv.mono wide) (hG.at fun o e => mv.heap a o haw e))
  | succ d ih =>
    intro i s hd hi hst hG hR
    refine codeAny_builtin F.entry_set_update_loop ?_
    rw [Around.under_plainId F.plain_set_update_loop _]
    show wpAny _ A.in1 (pyNext (.ref I) >>= _) _ _ _
    refine wpAny_bind (W.item i s _ _ (by omega) hst fun v s' hP hst' mv => ?_)
    obtain ⟨q, hq, hkd, hsc⟩ := hv i v hP
    have hG' := hG.at (hp' := s'.heap) fun o e => mv.heap a o haw e
    show wpAny _ A.in1 (holding [v] (setAdd a v) >>= _) _ _ _
    refine wpAny_bind (wpAny_holding ?_)
    unfold setAdd
    have hl : ((xs.take i).foldl onceL []).length + 1 < scanBound := by
      have := once_len (xs.take i)
      have : (xs.take i).length ≤ xs.length := by rw [List.length_take]; omega
      show (onceAll (xs.take i)).length + 1 < _
      omega
    refine wpAny_holding (wpAny_bind (kd.pyHash hkd (setG_add (s := { s' with toks := s'.toks + 1 }) hG' hkd hsc hl fun b hp sb G => ?_)))
    have G2 : SetG kd hp a ((xs.take (i + 1)).foldl onceL []) := by
      rw [List.take_add_one, hq, Option.toList_some, List.foldl_append]
      exact G
    refine wpAny_pure ⟨plainId_quiet F.plain_set_update_loop _, ih (i + 1) _ (by omega) (by omega) (W.frame _ s' _ _ hst' (Nat.le_succ _) fun c hc o e => ?_) G2 fun s2 mv2 G3 => hR s2 (Moved.trans W.gtrans ((mv.mono wide).then_heap (Nat.le_succ _) fun c o hc e => ?_) mv2) G3⟩
    · exact (sb.2 c fun z : c = a => ha (z ▸ hc)).trans e
    · exact (sb.2 c fun z : c = a => hc (z ▸ List.mem_cons_self)).trans e
def fresh0 (wd : World) : Obj := { cls := .type "set", dict := none, data := .set #[] 0 (.fresh 0 0 (!wd.params.followText "set-order")) }
theorem setG_new (e : hp.get? a = some (fresh0 wd)) : SetG kd hp a [] :=
  ⟨_, #[], 0, _, e, ⟨rfl, rfl, rfl⟩, rfl, (fun e he => by simp at he), .nil, .nil, by decide, by rfl, List.Pairwise.nil, by
    show _ ∨ (!wd.params.followText "set-order") = true
    cases wd.params.followText "set-order" with
    | true => exact .inl rfl
    | false => exact .inr rfl⟩

theorem mk_set_lst {src : Addr} {vals : Array Value} {xs : List κ} {Q : Value → Shared → Prop} (calm : A.handled = none) (hL : s.heap.IsList src vals) (hlen : vals.size = xs.length) (hb : xs.length + 1 < scanBound)
    (hv : ∀ (i : Nat) v, vals[i]? = some v → ∃ q, xs[i]? = some q ∧ kd.is q v = true ∧ v.scannable = true)
    (h : ∀ (hp : Heap) (tk : Nat), SetG kd hp s.heap.objs.size (onceAll xs) → (∀ b o, s.heap.get? b = some o → hp.get? b = some o) → Q (.ref s.heap.objs.size) { s with heap := hp, toks := tk }) :
    wpAny (model pr wd) A (call (.type "set") [.ref src]) Q E s := by
  obtain ⟨mc, mt, mro⟩ := F.called_set.mro
  have f1 := F.called_set.made
  have f2 := F.called_set.sub
  refine wpAny_call (codeAny_of_tree (show wpAny _ _ (callAny (.type "set") _) _ _ _ from wpAny_pure ⟨Code.quiet_builtin _ (by decide +kernel), codeAny_builtin F.entry_type_call ?_⟩))
  rw [Around.under_plain (weight_type_call_type "set" [.ref src] []) rfl]
  have f3 := F.called_set.notType
  have f4 := F.called_set.canCreate
  have f5 := F.typeCall_set_1 (.ref src)
  repeat (any_goals (first | assumption | wp_step))
  refine codeAny_mono (code_set_led1 (.ref src) (E := E) (Q₁ := fun r s1 => r = .ref s.heap.objs.size ∧ s1 = { s with heap := s.heap.push (fresh0 wd) }) ⟨rfl, rfl⟩) fun r s1 hr => ?_
  cases r with
  | error e => exact hr
  | ok fl =>
    cases fl with
    | ret ob =>
      obtain ⟨rfl, rfl⟩ := hr
      have n1 : (s.heap.push (fresh0 wd)).get? s.heap.objs.size = some (fresh0 wd) := Heap.get?_push_size _ rfl
      have n2 : Shared.TypeIs { s with heap := s.heap.push (fresh0 wd) } (.ref s.heap.objs.size) "set" := ⟨_, n1, rfl⟩
      have f6 := F.called_set.init.lookup
      have f7 := F.called_set.init.bind (.ref s.heap.objs.size)
      repeat (any_goals (first | assumption | wp_step))
      refine codeAny_mono (codeAny_call_builtin (R := wants (fun r s2 => r = .none ∧ ∃ hp tk, s2 = { s with heap := hp, toks := tk } ∧ SetG kd hp s.heap.objs.size (onceAll xs) ∧ (∀ b o, s.heap.get? b = some o → hp.get? b = some o)) E)
        F.called_set.init.plain F.entry_set_init (check_set_init_1 n2 ?_)) fun r2 s2 hr2 => ?_
      · obtain ⟨⟨c0, d0, t0, sl0⟩, g1, g2, nn, g3⟩ := hL
        dsimp only at g2 g3
        subst g2
        subst g3
        have old : (s.heap.push (fresh0 wd)).get? src = some { cls := .type "list", dict := d0, data := .seq vals nn, slots := sl0 } := Heap.get?_push_of_some _ g1
        have u1 := F.sub_list_set
        have u2 := F.sub_list_frozenset
        have u3 : (Value.type "list" == Value.type "dict") = false := by decide
        have L1 : (s.heap.push (fresh0 wd)).IsList src vals := ⟨_, old, rfl, nn, rfl⟩
        unfold Builtin.«set.__init__» noKeywords Builtin.Frozenset.updateFrom
        generalize hIt : pyIter = It
        wp_walk
        subst hIt
        refine wpAny_pyIter_list L1 (wpAny_bind (wpAny_runValue ?_))
        have lt0 : src < s.heap.objs.size := Heap.lt_size g1
        have hh : A.in1.in1.in1.handled = none := by simp [calm]
        have sz1 : (s.heap.push (fresh0 wd)).objs.size = s.heap.objs.size + 1 := Heap.size_push ..
        have ne1 : src ≠ (s.heap.push (fresh0 wd)).objs.size := by rw [sz1]; exact Nat.ne_of_lt (Nat.lt_succ_of_lt lt0)
        have out1 : s.heap.objs.size ∉ [(s.heap.push (fresh0 wd)).objs.size, src] := by
          rw [sz1]
          intro z
          rcases List.mem_cons.mp z with z | z
          · exact Nat.ne_of_lt (Nat.lt_succ_self _) z
          · exact Nat.ne_of_gt lt0 (List.mem_singleton.mp z)
        refine setG_loop (kd := kd) ((Walks.list hh _ src ne1 vals).toS) (a := s.heap.objs.size) out1 hlen hb hv (vals.size - 0) 0 _ (by omega) (Nat.zero_le _) ⟨⟨_, Heap.get?_push_size _ rfl, rfl, rfl⟩, (L1.push _)⟩ ?_ ?_
        · exact setG_new (Heap.get?_push_of_some _ n1)
        · intro s3 mv G
          obtain ⟨hp, gn, dr, tk, os⟩ := s3
          have z1 : gn = s.gens := mv.gens
          have z2 : dr = s.drawn := mv.drawn
          have z3 : os = s.os := mv.os
          subst z1
          subst z2
          subst z3
          refine wpAny_pure (show wpAny _ _ (ret Value.none) _ _ _ from wpAny_pure ⟨rfl, hp, tk, rfl, G, fun b o e => ?_⟩)
          have lt1 : b < s.heap.objs.size := Heap.lt_size e
          refine mv.heap b o (fun z => ?_) (Heap.get?_push_of_some _ (Heap.get?_push_of_some _ e))
          rcases List.mem_cons.mp z with z | z
          · exact Nat.ne_of_lt lt1 z
          · have z := List.mem_singleton.mp z
            rw [sz1] at z
            exact Nat.ne_of_lt (Nat.lt_succ_of_lt lt1) z
      · cases r2 with
        | error e => exact hr2
        | ok fl2 =>
          cases fl2 with
          | ret r =>
            obtain ⟨rfl, hp, tk, rfl, G, keep⟩ := hr2
            repeat (any_goals (first | assumption | wp_step))
            exact h _ _ G keep
          | _ => exact hr2.elim
    | _ => exact hr.elim

theorem mk_set_tup {src : Addr} {vals : Array Value} {xs : List κ} {Q : Value → Shared → Prop} (calm : A.handled = none) (hL : s.heap.IsTuple src vals) (hlen : vals.size = xs.length) (hb : xs.length + 1 < scanBound)
    (hv : ∀ (i : Nat) v, vals[i]? = some v → ∃ q, xs[i]? = some q ∧ kd.is q v = true ∧ v.scannable = true)
    (h : ∀ (hp : Heap) (tk : Nat), SetG kd hp s.heap.objs.size (onceAll xs) → (∀ b o, s.heap.get? b = some o → hp.get? b = some o) → Q (.ref s.heap.objs.size) { s with heap := hp, toks := tk }) :
    wpAny (model pr wd) A (call (.type "set") [.ref src]) Q E s := by
  obtain ⟨mc, mt, mro⟩ := F.called_set.mro
  have f1 := F.called_set.made
  have f2 := F.called_set.sub
  refine wpAny_call (codeAny_of_tree (show wpAny _ _ (callAny (.type "set") _) _ _ _ from wpAny_pure ⟨Code.quiet_builtin _ (by decide +kernel), codeAny_builtin F.entry_type_call ?_⟩))
  rw [Around.under_plain (weight_type_call_type "set" [.ref src] []) rfl]
  have f3 := F.called_set.notType
  have f4 := F.called_set.canCreate
  have f5 := F.typeCall_set_1 (.ref src)
  repeat (any_goals (first | assumption | wp_step))
  refine codeAny_mono (code_set_led1 (.ref src) (E := E) (Q₁ := fun r s1 => r = .ref s.heap.objs.size ∧ s1 = { s with heap := s.heap.push (fresh0 wd) }) ⟨rfl, rfl⟩) fun r s1 hr => ?_
  cases r with
  | error e => exact hr
  | ok fl =>
    cases fl with
    | ret ob =>
      obtain ⟨rfl, rfl⟩ := hr
      have n1 : (s.heap.push (fresh0 wd)).get? s.heap.objs.size = some (fresh0 wd) := Heap.get?_push_size _ rfl
      have n2 : Shared.TypeIs { s with heap := s.heap.push (fresh0 wd) } (.ref s.heap.objs.size) "set" := ⟨_, n1, rfl⟩
      have f6 := F.called_set.init.lookup
      have f7 := F.called_set.init.bind (.ref s.heap.objs.size)
      repeat (any_goals (first | assumption | wp_step))
      refine codeAny_mono (codeAny_call_builtin (R := wants (fun r s2 => r = .none ∧ ∃ hp tk, s2 = { s with heap := hp, toks := tk } ∧ SetG kd hp s.heap.objs.size (onceAll xs) ∧ (∀ b o, s.heap.get? b = some o → hp.get? b = some o)) E)
        F.called_set.init.plain F.entry_set_init (check_set_init_1 n2 ?_)) fun r2 s2 hr2 => ?_
      · obtain ⟨⟨c0, d0, t0, sl0⟩, g1, g2, nn, g3⟩ := hL
        dsimp only at g2 g3
        subst g2
        subst g3
        have old : (s.heap.push (fresh0 wd)).get? src = some { cls := .type "tuple", dict := d0, data := .seq vals nn, slots := sl0 } := Heap.get?_push_of_some _ g1
        have u1 := F.sub_tuple_set
        have u2 := F.sub_tuple_frozenset
        have u3 : (Value.type "tuple" == Value.type "dict") = false := by decide
        have L1 : (s.heap.push (fresh0 wd)).IsTuple src vals := ⟨_, old, rfl, nn, rfl⟩
        unfold Builtin.«set.__init__» noKeywords Builtin.Frozenset.updateFrom
        generalize hIt : pyIter = It
        wp_walk
        subst hIt
        refine wpAny_pyIter_tuple L1 (wpAny_bind (wpAny_runValue ?_))
        have lt0 : src < s.heap.objs.size := Heap.lt_size g1
        have hh : A.in1.in1.in1.handled = none := by simp [calm]
        have sz1 : (s.heap.push (fresh0 wd)).objs.size = s.heap.objs.size + 1 := Heap.size_push ..
        have ne1 : src ≠ (s.heap.push (fresh0 wd)).objs.size := by rw [sz1]; exact Nat.ne_of_lt (Nat.lt_succ_of_lt lt0)
        have out1 : s.heap.objs.size ∉ [(s.heap.push (fresh0 wd)).objs.size, src] := by
          rw [sz1]
          intro z
          rcases List.mem_cons.mp z with z | z
          · exact Nat.ne_of_lt (Nat.lt_succ_self _) z
          · exact Nat.ne_of_gt lt0 (List.mem_singleton.mp z)
        refine setG_loop (kd := kd) ((Walks.tuple hh _ src ne1 vals).toS) (a := s.heap.objs.size) out1 hlen hb hv (vals.size - 0) 0 _ (by omega) (Nat.zero_le _) ⟨⟨_, Heap.get?_push_size _ rfl, rfl, rfl⟩, (L1.push _)⟩ ?_ ?_
        · exact setG_new (Heap.get?_push_of_some _ n1)
        · intro s3 mv G
          obtain ⟨hp, gn, dr, tk, os⟩ := s3
          have z1 : gn = s.gens := mv.gens
          have z2 : dr = s.drawn := mv.drawn
          have z3 : os = s.os := mv.os
          subst z1
          subst z2
          subst z3
          refine wpAny_pure (show wpAny _ _ (ret Value.none) _ _ _ from wpAny_pure ⟨rfl, hp, tk, rfl, G, fun b o e => ?_⟩)
          have lt1 : b < s.heap.objs.size := Heap.lt_size e
          refine mv.heap b o (fun z => ?_) (Heap.get?_push_of_some _ (Heap.get?_push_of_some _ e))
          rcases List.mem_cons.mp z with z | z
          · exact Nat.ne_of_lt lt1 z
          · have z := List.mem_singleton.mp z
            rw [sz1] at z
            exact Nat.ne_of_lt (Nat.lt_succ_of_lt lt1) z
      · cases r2 with
        | error e => exact hr2
        | ok fl2 =>
          cases fl2 with
          | ret r =>
            obtain ⟨rfl, hp, tk, rfl, G, keep⟩ := hr2
            repeat (any_goals (first | assumption | wp_step))
            exact h _ _ G keep
          | _ => exact hr2.elim
    | _ => exact hr.elim

/-! ### sorted(..), len(..) of such a set -/
noncomputable def keyV (kd : KeyKind pr wd κ) (v : Value) : κ := Classical.epsilon fun q => kd.is q v = true
theorem setG_vals (R : SetG kd s.heap a l) (calm : A.handled = none) {Q : List Value → Shared → Prop}
    (hQ : ∀ s' vs, (∀ b o, s.heap.get? b = some o → s'.heap.get? b = some o) → s.heap.objs.size ≤ s'.heap.objs.size → s'.gens = s.gens → s'.os = s.os → (vs.map (keyV kd)).Perm l → (∀ v ∈ vs, ∃ q, kd.is q v = true) → Q vs s') :
    wpAny (model pr wd) A (collect (.ref a)) Q E s := by
  obtain ⟨ob, rows, ep, tb, hob, hx, hdt, el, pm, nd, hb, hfit, hris, hled⟩ := R
  refine collect_set (A := A) calm ⟨ob, hob, hx.1, hdt⟩ hfit hb hris hled fun s' vs k1 k2 k3 k4 pv => hQ s' vs k1 k2 k3 k4 ?_ fun v hv => ?_
  · have := pv.map (keyV kd)
    rw [List.map_map] at this
    exact this.trans pm
  · obtain ⟨e, he, rfl⟩ := List.mem_map.mp (pv.mem_iff.mp hv)
    obtain ⟨⟨q, h0, _⟩, _⟩ := el e he
    exact ⟨q, h0⟩
theorem keyV_is {v : Value} (h : ∃ q, kd.is q v = true) : kd.is (keyV kd v) v = true := Classical.epsilon_spec h
/-- sorted of a set, by a rule for list.sort -/
theorem setG_sorted (R : SetG kd s.heap a l) (calm : A.handled = none) {up : List κ → Prop} {Q : Value → Shared → Prop}
    (hs : ∀ (s1 : Shared) (b : Addr) (vs : List Value) (n : Nat) (Rf : PySem.Fin → Shared → Prop), s1.heap.get? b = some (seqObj "list" vs.toArray n) → (∀ v ∈ vs, ∃ q, kd.is q v = true) → vs.length ≤ sizeLine →
      (∀ (out : Array Value) (ys : List κ), Paired (fun v q => kd.is q v = true) out.toList ys → ys.Perm (vs.map (keyV kd)) → up ys → Rf (.done (.ret .none)) { s1 with heap := sortedHeap s1.heap b vs out }) →
      wpAny (model pr wd) A.in1.in1 (Builtin.«list.sort» ⟨[.ref b], []⟩) Rf E s1)
    (hQ : ∀ s' p (out : Array Value) (c : Nat) (ys : List κ), (∀ b o, s.heap.get? b = some o → s'.heap.get? b = some o) → s'.gens = s.gens → s'.os = s.os → s.heap.objs.size ≤ p →
      s'.heap.get? p = some (seqObj "list" out c) → Paired (fun v q => kd.is q v = true) out.toList ys → ys.Perm l → up ys → Q (.ref p) s') :
    wpAny (model pr wd) A (call (.builtin "sorted") [.ref a]) Q E s := by
  have small := R.small
  refine Calls.call_function_entry kind_sorted plain_sorted entry_sorted (args_sorted1 _) (show wpAny _ _ (Builtin.«sorted» _) _ _ _ from ?_)
  unfold Builtin.«sorted»
  refine wpAny_bind (m := checkCount "sorted" 1 1 _) (wpAny_pure (wpAny_bind (setG_vals R (A := A.in1) calm fun s1 vs k1 k2 k3 k4 pm hv => ?_)))
  have hlen : vs.length ≤ sizeLine := by
    have := pm.length_eq
    rw [List.length_map] at this
    rw [this]
    exact fits_of_scanBound small
  refine wpAny_bind (wpAny_newList ?_ hlen)
  have new1 : (s1.heap.push (seqObj "list" vs.toArray 0)).get? s1.heap.objs.size = some (seqObj "list" vs.toArray 0) := Heap.get?_push_size _ rfl
  refine wpAny_bind (wpAny_holding (wpAny_call_entry slot_list_sort ⟨_, new1, rfl⟩ entry_list_sort (hs _ _ vs _ _ new1 hv hlen fun out ys y1 y2 y3 => ⟨_, rfl, ?_⟩) (args_list_sort _)))
  obtain ⟨c, hc⟩ := sortedHeap_at (vs := vs) (out := out) new1
  refine wpAny_pure ⟨_, rfl, hQ _ s1.heap.objs.size out c ys (fun b o e => ?_) k3 k4 k2 hc y1 (y2.trans pm) y3⟩
  have e1 := k1 b o e
  have lt1 := Heap.lt_size e1
  exact (sortedHeap_old (Nat.ne_of_lt lt1) (by rw [size_push']; exact Nat.lt_succ_of_lt lt1)).trans (Heap.get?_push_of_some _ e1)
end
end Y

set_option Elab.async false
set_option linter.all false
set_option maxRecDepth 100000
set_option maxHeartbeats 2000000
/-! sorted texts; set(..) as a call -/
namespace Y
open PySem PySem.Spec PyProof.Rows L2 Z
def leS (a b : Str) : Prop := a.cps.toList ≤ b.cps.toList
instance : DecidableRel leS := fun a b => inferInstanceAs (Decidable (a.cps.toList ≤ b.cps.toList))
theorem leS_trans {a b c : Str} (h : leS a b) (h2 : leS b c) : leS a c := List.le_trans h h2
theorem leS_total (a b : Str) : leS a b ∨ leS b a := List.le_total _ _
theorem str_eq {a b : Str} (h : a.cps.toList = b.cps.toList) : a = b := by
  cases a
  cases b
  congr
  exact Array.toList_inj.mp h
theorem leS_anti {a b : Str} (h : leS a b) (h2 : leS b a) : a = b := str_eq (List.le_antisymm h h2)
def sortS (xs : List Str) : List Str := xs.mergeSort fun a b => decide (leS a b)
theorem sortS_perm (xs : List Str) : (sortS xs).Perm xs := List.mergeSort_perm _ _
theorem sortS_asc (xs : List Str) : (sortS xs).Pairwise leS := by
  have h := List.pairwise_mergeSort (le := fun a b : Str => decide (leS a b)) (fun a b c h1 h2 => decide_eq_true (leS_trans (of_decide_eq_true h1) (of_decide_eq_true h2))) (fun a b => by
    rcases leS_total a b with h | h
    · simp [h]
    · simp [h]) xs
  exact h.imp fun h => of_decide_eq_true h
theorem sortS_uniq {xs ys : List Str} (hp : ys.Perm xs) (hs : ys.Pairwise leS) : ys = sortS xs :=
  List.Perm.eq_of_pairwise (fun _ _ _ _ h h2 => leS_anti h h2) hs (sortS_asc xs) (hp.trans (sortS_perm xs).symm)
theorem rising_pair : ∀ {p : Str} {l : List Str}, risingS p l = true → (p :: l).Pairwise leS
  | p, [], _ => List.pairwise_singleton _ _
  | p, x :: r, h => by
    have h : (!ltCps x.cps.toList p.cps.toList && risingS x r) = true := h
    rw [Bool.and_eq_true, Bool.not_eq_true', ltCps_eq, decide_eq_false_iff_not] at h
    have ih := rising_pair h.2
    refine List.pairwise_cons.mpr ⟨fun y hy => ?_, ih⟩
    have px : leS p x := h.1
    rcases List.mem_cons.mp hy with e | e
    · rw [e]
      exact px
    · exact leS_trans px ((List.pairwise_cons.mp ih).1 y e)
theorem sortedS_pair : ∀ {l : List Str}, sortedS l = true → l.Pairwise leS
  | [], _ => .nil
  | _ :: _, h => rising_pair h
/-- each text once, ascending -/
def usortS (xs : List Str) : List Str := sortS (onceAll xs)
theorem usortS_mem {xs : List Str} {z : Str} : z ∈ usortS xs ↔ z ∈ xs := (sortS_perm _).mem_iff.trans once_mem
theorem usortS_nodup (xs : List Str) : (usortS xs).Nodup := (sortS_perm _).nodup_iff.mpr (once_nodup xs)
theorem usortS_of {xs ys : List Str} (hn : ys.Nodup) (hm : ∀ z, z ∈ ys ↔ z ∈ xs) : sortS ys = usortS xs :=
  (sortS_uniq ((sortS_perm _).trans ((List.perm_ext_iff_of_nodup hn (once_nodup xs)).mpr fun z => (hm z).trans once_mem.symm)) (sortS_asc _))
theorem usort_of {xs ys : List Int} (h : ys.Perm (onceAll xs)) (h2 : ys.Pairwise (· ≤ ·)) : ys = usort xs := by
  have hn : ys.Nodup := h.nodup_iff.mpr (once_nodup xs)
  have hlt : ys.Pairwise (· < ·) := (h2.and hn).imp fun {a b} z => Int.lt_iff_le_and_ne.mpr z
  exact asc_uniq hlt (usort_asc xs) fun z => h.mem_iff.trans (once_mem.trans usort_mem.symm)
/-! ### the set as an object -/
section
variable {κ : Type} [DecidableEq κ] [Nonempty κ]
def SetGO (P : Program) (w : World) (kd : KeyKind P w κ) (a : Addr) (l : List κ) : HO := .ext fun h => SetG kd h a l
variable {P : Program} {w : World} {kd : KeyKind P w κ}
theorem setGO_new {H : Hp} {h : Heap} {a : Addr} {l : List κ} (R : SetG kd h a l) : ObjOk P w H h a (SetGO P w kd a l) := ⟨R, R.ob, fun _ _ q k => q.at k⟩
theorem setGO_get {κ : Type} [DecidableEq κ] [Nonempty κ] {X : Cx} {kd : KeyKind X.prog X.w κ} {pins : List (Addr × Obj)} {σ : L2.St} {H : Hp} {s : Shared} {a : Addr} {l : List κ} (I : Inv X pins σ H s) (ha : H a = some (SetGO X.prog X.w kd a l)) : SetG kd s.heap a l := (I.hok a _ ha).1
end
/-- set(xs), a list or a tuple of texts, of whole numbers -/
def rSetY (K : PySem.W.Frag) (P : Program) (w : World) : List V → Hp → VK → Prop := fun vs H Q => ∃ a, vs = [V.ref a] ∧
  ((∃ xs : List Str, (SqL K H a (xs.map V.str) ∨ SqT K H a (xs.map V.str)) ∧ xs.length + 1 < scanBound ∧ ∀ p, H p = none → Q (.ref p) (upd H p (SetGO P w (PySem.strKind P w) p (onceAll xs)))) ∨
   (∃ xs : List Int, (SqL K H a (xs.map V.int) ∨ SqT K H a (xs.map V.int)) ∧ xs.length + 1 < scanBound ∧ ∀ p, H p = none → Q (.ref p) (upd H p (SetGO P w (PySem.intKind P w) p (onceAll xs)))))
theorem strs_at : ∀ {vs : List Value} {xs : List Str}, StrsAre vs xs → ∀ (i : Nat) v, vs[i]? = some v → ∃ q, xs[i]? = some q ∧ (∃ t, v = .str q t)
  | _, _, .nil, i, v, h => by simp at h
  | _, _, .cons x t r, 0, v, h => by
    simp only [List.getElem?_cons_zero, Option.some.injEq] at h
    exact ⟨x, rfl, t, h.symm⟩
  | _, _, .cons x t r, i + 1, v, h => by
    rw [List.getElem?_cons_succ] at h ⊢
    exact strs_at r i v h
theorem ints_at : ∀ {vs : List Value} {xs : List Int}, IntsAre vs xs → ∀ (i : Nat) v, vs[i]? = some v → ∃ q, xs[i]? = some q ∧ (∃ t, v = .int q t)
  | _, _, .nil, i, v, h => by simp at h
  | _, _, .cons x t r, 0, v, h => by
    simp only [List.getElem?_cons_zero, Option.some.injEq] at h
    exact ⟨x, rfl, t, h.symm⟩
  | _, _, .cons x t r, i + 1, v, h => by
    rw [List.getElem?_cons_succ] at h ⊢
    exact ints_at r i v h
theorem is_strY {P : Program} {w : World} (q : Str) (t : Tok) : (PySem.strKind P w).is q (.str q t) = true := by
  show Value.isStrOf q (.str q t) = true
  simp [Value.isStrOf]
instance : Nonempty Str := ⟨⟨#[]⟩⟩
theorem cr_setY {X : Cx} (hc : X.calm = true) : CallR X (.type "set") (rSetY X.K X.prog X.w) := by
  intro pins s σ H vs us Q I r h
  obtain ⟨a, rfl, h⟩ := h
  rw [Vals.ref1 r]
  have free : H s.heap.objs.size = none := I.hok.fresh (Nat.le_refl _)
  rcases h with ⟨xs, hs, hz, q⟩ | ⟨xs, hs, hz, q⟩
  · rcases hs with hs | hs
    · obtain ⟨its, rv, hl, _⟩ := I.list hs
      have rv := rv.strs
      refine mk_set_lst (kd := PySem.strKind X.prog X.w) (xs := xs) (I.ok.hd hc) hl.isList (by rw [List.size_toArray]; exact rv.length) hz (fun i v e => ?_) fun hp tk G keep => ⟨.ref _, _, I.laid (t' := tk) keep (Nat.le_refl _) (setGO_new G), rfl, q _ free⟩
      obtain ⟨q, e1, t, rfl⟩ := strs_at rv i v (by simpa using e)
      exact ⟨q, e1, is_strY q t, rfl⟩
    · obtain ⟨its, rv, hl, _⟩ := I.tuple hs
      have rv := rv.strs
      refine mk_set_tup (kd := PySem.strKind X.prog X.w) (xs := xs) (I.ok.hd hc) hl (by rw [List.size_toArray]; exact rv.length) hz (fun i v e => ?_) fun hp tk G keep => ⟨.ref _, _, I.laid (t' := tk) keep (Nat.le_refl _) (setGO_new G), rfl, q _ free⟩
      obtain ⟨q, e1, t, rfl⟩ := strs_at rv i v (by simpa using e)
      exact ⟨q, e1, is_strY q t, rfl⟩
  · rcases hs with hs | hs
    · obtain ⟨its, rv, hl, _⟩ := I.list hs
      have rv := rv.ints
      refine mk_set_lst (kd := PySem.intKind X.prog X.w) (xs := xs) (I.ok.hd hc) hl.isList (by rw [List.size_toArray]; exact rv.length) hz (fun i v e => ?_) fun hp tk G keep => ⟨.ref _, _, I.laid (t' := tk) keep (Nat.le_refl _) (setGO_new G), rfl, q _ free⟩
      obtain ⟨q, e1, t, rfl⟩ := ints_at rv i v (by simpa using e)
      exact ⟨q, e1, intKind_is _ _ q t, rfl⟩
    · obtain ⟨its, rv, hl, _⟩ := I.tuple hs
      have rv := rv.ints
      refine mk_set_tup (kd := PySem.intKind X.prog X.w) (xs := xs) (I.ok.hd hc) hl (by rw [List.size_toArray]; exact rv.length) hz (fun i v e => ?_) fun hp tk G keep => ⟨.ref _, _, I.laid (t' := tk) keep (Nat.le_refl _) (setGO_new G), rfl, q _ free⟩
      obtain ⟨q, e1, t, rfl⟩ := ints_at rv i v (by simpa using e)
      exact ⟨q, e1, intKind_is _ _ q t, rfl⟩
/-- sorted(set) -/
def rSortSetY (P : Program) (w : World) : List V → Hp → VK → Prop := fun vs H Q => ∃ a, vs = [V.ref a] ∧
  ((∃ l : List Str, H a = some (SetGO P w (PySem.strKind P w) a l) ∧ ∀ p, H p = none → Q (.ref p) (upd H p (.lst ((sortS l).map V.str)))) ∨
   (∃ l : List Int, H a = some (SetGO P w (PySem.intKind P w) a l) ∧ ∀ p, H p = none → Q (.ref p) (upd H p (.lst ((sortI l).map V.int)))))
theorem pair_strs {P : Program} {w : World} : ∀ {vs : List Value} {ys : List Str}, Paired (fun v q => (PySem.strKind P w).is q v = true) vs ys → StrsAre vs ys
  | _, _, .nil => .nil
  | _, _, .cons h r => by
    obtain ⟨t, rfl⟩ := Value.isStrOf_shape h
    exact .cons _ t (pair_strs r)
theorem pair_ints {P : Program} {w : World} : ∀ {vs : List Value} {ys : List Int}, Paired (fun v q => (PySem.intKind P w).is q v = true) vs ys → IntsAre vs ys
  | _, _, .nil => .nil
  | _, _, .cons h r => by
    obtain ⟨t, rfl⟩ := Value.isInt_shape h
    exact .cons _ t (pair_ints r)
theorem strs_pair {P : Program} {w : World} : ∀ {vs : List Value} {ys : List Str}, StrsAre vs ys → Paired (fun v q => (PySem.strKind P w).is q v = true) vs ys
  | _, _, .nil => .nil
  | _, _, .cons q t r => .cons (is_strY q t) (strs_pair r)
theorem ints_pair {P : Program} {w : World} : ∀ {vs : List Value} {ys : List Int}, IntsAre vs ys → Paired (fun v q => (PySem.intKind P w).is q v = true) vs ys
  | _, _, .nil => .nil
  | _, _, .cons q t r => .cons (intKind_is _ _ q t) (ints_pair r)
section
variable {κ : Type} [DecidableEq κ] [Nonempty κ] {P : Program} {w : World} {kd : KeyKind P w κ}
theorem keyV_pair : ∀ {vs : List Value}, (∀ v ∈ vs, ∃ q, kd.is q v = true) → Paired (fun v q => kd.is q v = true) vs (vs.map (keyV kd))
  | [], _ => .nil
  | v :: r, h => .cons (keyV_is (h v List.mem_cons_self)) (keyV_pair fun u hu => h u (List.mem_cons_of_mem _ hu))
end
theorem cr_sortSetY {X : Cx} (hc : X.calm = true) : CallR X (.builtin "sorted") (rSortSetY X.prog X.w) := by
  intro pins s σ H vs us Q I r h
  obtain ⟨a, rfl, h⟩ := h
  rw [Vals.ref1 r]
  have goal : ∀ (s' : Shared) (p : Addr) (out : Array Value) (c : Nat) (vs : List V), (∀ b o, s.heap.get? b = some o → s'.heap.get? b = some o) → s'.gens = s.gens → s'.os = s.os → s.heap.objs.size ≤ p →
      s'.heap.get? p = some (seqObj "list" out c) → Vals vs out.toList → vs.length ≤ sizeLine → (∀ p, H p = none → Q (.ref p) (upd H p (.lst vs))) → EP X pins σ Q (.ref p) s' := fun s' p out c vs k g o hp hg hv hl q => by
    have free : H p = none := I.hok.fresh hp
    have J : Inv X pins σ (upd H p (.lst vs)) { s with heap := s'.heap, gens := s'.gens, drawn := s'.drawn, toks := s'.toks } :=
      I.call (ch := []) (Un.laid k hp free) (I.hok.laid k hp ⟨hl, out.toList, c, hv, hg⟩) (by rw [g]; exact I.bare) (fun _ z => nomatch z)
    have e : s' = { s with heap := s'.heap, gens := s'.gens, drawn := s'.drawn, toks := s'.toks } := by
      cases s'
      cases s
      cases o
      rfl
    rw [e]
    exact ⟨.ref p, _, J, rfl, q p free⟩
  rcases h with ⟨l, ha, q⟩ | ⟨l, ha, q⟩
  · have G := setGO_get I ha
    refine setG_sorted G (I.ok.hd hc) (up := fun ys => ys.Pairwise leS) (fun s1 b vs n Rf e hv hz h => ?_) fun s' p out c ys k g o hp hg pr pm up => ?_
    · have sa := pair_strs (keyV_pair hv)
      refine list_sort_treeKAny strKind_oneLt e sa.keysOf (fun v1 v2 rest e => keyKind_strs (by rw [← e]; exact sa)) hz fun st' y1 y2 => ?_
      obtain ⟨ys, z1, z2, z3⟩ := sorted_out_str sa y1 y2
      exact h _ ys (strs_pair z1) z2 (sortedS_pair z3)
    · have sa := pair_strs pr
      have ey := sortS_uniq pm up
      refine goal s' p out c _ k g o hp hg (vals_of_strs sa) ?_ (by rw [ey]; exact q)
      rw [List.length_map, pm.length_eq]
      exact fits_of_scanBound G.small
  · have G := setGO_get I ha
    refine setG_sorted G (I.ok.hd hc) (up := fun ys => ys.Pairwise (· ≤ ·)) (fun s1 b vs n Rf e hv hz h => ?_) fun s' p out c ys k g o hp hg pr pm up => ?_
    · have sa := pair_ints (keyV_pair hv)
      exact list_sort_treeAny e sa hz fun out ys z1 z2 z3 => h _ ys (ints_pair z1) z2 z3
    · have sa := pair_ints pr
      have ey : ys = sortI l := List.Perm.eq_of_pairwise (fun _ _ _ _ h h2 => Int.le_antisymm h h2) up (sortI_asc l) (pm.trans (sortI_perm l).symm)
      refine goal s' p out c _ k g o hp hg (vals_of_ints sa) ?_ (by rw [ey]; exact q)
      rw [List.length_map, pm.length_eq]
      exact fits_of_scanBound G.small
/-- len(set) -/
def rLenSetY (P : Program) (w : World) : List V → Hp → VK → Prop := fun vs H Q => ∃ a, vs = [V.ref a] ∧
  ((∃ l : List Str, H a = some (SetGO P w (PySem.strKind P w) a l) ∧ Q (.int l.length) H) ∨ (∃ l : List Int, H a = some (SetGO P w (PySem.intKind P w) a l) ∧ Q (.int l.length) H))
theorem setG_len {κ : Type} [DecidableEq κ] [Nonempty κ] {P : Program} {w : World} {kd : KeyKind P w κ} {A : Around} {E : Value → Shared → Prop} {s : Shared} {a : Addr} {l : List κ} {Q : Value → Shared → Prop} (R : SetG kd s.heap a l)
    (h : ∀ t t', Q (.int l.length t) { s with toks := t' }) : wpAny (model P w) A (call (.builtin "len") [.ref a]) Q E s := by
  have small := R.small
  obtain ⟨ob, rows, ep, tb, hob, hx, hdt, el, pm, nd, hb, hfit, hris, hled⟩ := R
  have hsz : rows.size = l.length := by rw [← pm.length_eq, List.length_map, Array.length_toList]
  refine call_len_set hob hx hdt hfit ?_ (by rw [hsz]; exact h _ _)
  rw [hsz]
  have : scanBound = 4096 := rfl
  omega
theorem cr_lenSetY {X : Cx} : CallR X (.builtin "len") (rLenSetY X.prog X.w) := by
  intro pins s σ H vs us Q I r h
  obtain ⟨a, rfl, h⟩ := h
  rw [Vals.ref1 r]
  rcases h with ⟨l, ha, q⟩ | ⟨l, ha, q⟩
  · exact setG_len (setGO_get I ha) fun t t' => ⟨.int l.length, H, I.tok _, ⟨t, rfl⟩, q⟩
  · exact setG_len (setGO_get I ha) fun t t' => ⟨.int l.length, H, I.tok _, ⟨t, rfl⟩, q⟩
end Y

set_option Elab.async false
set_option linter.all false
set_option maxRecDepth 100000
set_option maxHeartbeats 2000000
/-! dicts that are written; dicts as data. Keys: whole numbers, texts -/
namespace Y
open PySem PySem.Spec PyProof.Rows L2 Z
class KeyY (κ : Type) where
  kk : κ → Key
  inj : ∀ a b, kk a = kk b → a = b
instance : KeyY Int := ⟨Sum.inl, fun _ _ h => Sum.inl.inj h⟩
instance : KeyY Str := ⟨Sum.inr, fun _ _ h => Sum.inr.inj h⟩
section
variable {κ α : Type} [DecidableEq κ]
def kvM [KeyY κ] (e : α → PyData) (xs : List (κ × α)) : List (Key × PyData) := xs.map fun p => (KeyY.kk p.1, e p.2)
@[reducible] def eM [KeyY κ] (e : α → PyData) (xs : List (κ × α)) : PyData := .dict ((kvM e xs).map fun p => (kD p.1, p.2))
def getA (xs : List (κ × α)) (q : κ) : Option α := (xs.find? fun p => decide (p.1 = q)).map (·.2)
def hasA (xs : List (κ × α)) (q : κ) : Bool := xs.any fun p => decide (p.1 = q)
def putA (xs : List (κ × α)) (q : κ) (v : α) : List (κ × α) := if hasA xs q = true then xs.map (fun p => if p.1 = q then (p.1, v) else p) else xs ++ [(q, v)]
def atA [Inhabited α] (xs : List (κ × α)) (q : κ) : α := (getA xs q).getD default
theorem getA_has (q : κ) : ∀ xs : List (κ × α), (getA xs q).isSome = hasA xs q
  | [] => rfl
  | p :: r => by
    unfold getA hasA
    rw [List.find?_cons, List.any_cons]
    by_cases h : p.1 = q
    · simp [h]
    · have := getA_has q r
      unfold getA hasA at this
      simpa [h] using this
theorem atA_get [Inhabited α] {xs : List (κ × α)} {q : κ} (h : hasA xs q = true) : getA xs q = some (atA xs q) := by
  unfold atA
  rw [← getA_has] at h
  cases e : getA xs q with
  | none => rw [e] at h; cases h
  | some v => rfl
end
/-! ### the heap's pairs -/
section
variable {K : PySem.W.Frag} {H : Hp}
theorem kD_inj : ∀ {a b : Key}, kD a = kD b → a = b
  | .inl i, .inl j, h => by
    injection h with h
    rw [h]
  | .inr x, .inr y, h => by
    injection h with h
    rw [h]
  | .inl i, .inr y, h => by cases h
  | .inr x, .inl j, h => by cases h
theorem kv_pair : ∀ {vs : List (Key × V)} {es : List (PyData × PyData)}, RpKv K H vs es → Paired (fun a b => kD a.1 = b.1 ∧ Rp K H a.2 b.2) vs es
  | _, _, .nil => .nil
  | _, _, .cons h t => .cons ⟨rfl, h⟩ (kv_pair t)
theorem pair_kv : ∀ {vs : List (Key × V)} {es : List (PyData × PyData)}, Paired (fun a b => kD a.1 = b.1 ∧ Rp K H a.2 b.2) vs es → RpKv K H vs es
  | _, _, .nil => .nil
  | _, (d1, d2) :: _, .cons (a := (k, v)) h t => by
    obtain ⟨h1, h2⟩ := h
    have h1 : kD k = d1 := h1
    subst h1
    exact .cons h2 (pair_kv t)
abbrev RpK (K : PySem.W.Frag) (H : Hp) : List (Key × V) → List (Key × PyData) → Prop := Paired fun a b => a.1 = b.1 ∧ Rp K H a.2 b.2
theorem kv_rpK {kvs : List (Key × PyData)} : ∀ {vs : List (Key × V)}, RpKv K H vs (kvs.map fun p => (kD p.1, p.2)) → RpK K H vs kvs := by
  induction kvs with
  | nil =>
    intro vs h
    have h := kv_pair h
    cases h
    exact .nil
  | cons p r ih =>
    intro vs h
    have h := kv_pair h
    cases h with
    | cons h t => exact .cons ⟨kD_inj h.1, h.2⟩ (ih (pair_kv t))
theorem rpK_kv : ∀ {vs : List (Key × V)} {kvs : List (Key × PyData)}, RpK K H vs kvs → RpKv K H vs (kvs.map fun p => (kD p.1, p.2))
  | _, _, .nil => .nil
  | (k, v) :: _, (k2, d) :: _, .cons h t => by
    obtain ⟨h1, h2⟩ := h
    have h1 : k = k2 := h1
    subst h1
    exact .cons h2 (rpK_kv t)
theorem rpK_mono {H' : Hp} (e : Ext H H') {vs : List (Key × V)} {kvs : List (Key × PyData)} (h : RpK K H vs kvs) : RpK K H' vs kvs := Paired.mapP h fun _ _ q => ⟨q.1, rp_mono e q.2⟩
theorem rpK_len {vs : List (Key × V)} {kvs : List (Key × PyData)} (h : RpK K H vs kvs) : vs.length = kvs.length := by
  induction h with
  | nil => rfl
  | cons _ _ ih => rw [List.length_cons, List.length_cons, ih]
theorem rpK_val {k : Key} : ∀ {vs : List (Key × V)} {kvs : List (Key × PyData)}, RpK K H vs kvs → (∃ v d, valV vs k = some v ∧ getA kvs k = some d ∧ Rp K H v d) ∨ (valV vs k = none ∧ getA kvs k = none)
  | _, _, .nil => .inr ⟨rfl, rfl⟩
  | (k1, v) :: r, (k2, d) :: t, .cons h tt => by
    obtain ⟨h1, h2⟩ := h
    have h1 : k1 = k2 := h1
    subst h1
    by_cases z : k1 = k
    · exact .inl ⟨v, d, valV_pos z, by unfold getA; rw [List.find?_cons]; simp [z], h2⟩
    · have e1 : valV ((k1, v) :: r) k = valV r k := valV_neg z
      have e2 : getA ((k1, d) :: t) k = getA t k := by
        unfold getA
        rw [List.find?_cons]
        simp [z]
      rw [e1, e2]
      exact rpK_val tt
theorem rpK_any {k : Key} {vs : List (Key × V)} {kvs : List (Key × PyData)} (h : RpK K H vs kvs) : (vs.any fun kv => decide (kv.1 = k)) = hasA kvs k := by
  induction h with
  | nil => rfl
  | cons h _ ih =>
    unfold hasA at ih ⊢
    rw [List.any_cons, List.any_cons, ih, h.1]
theorem rpK_put {k : Key} {v : V} {d : PyData} {vs : List (Key × V)} {kvs : List (Key × PyData)} (h : RpK K H vs kvs) (hv : Rp K H v d) : RpK K H (putK vs k v) (putA kvs k d) := by
  have ea := rpK_any (k := k) h
  unfold putK putA
  rw [ea]
  by_cases z : hasA kvs k = true
  · rw [if_pos z, if_pos z]
    clear ea z
    induction h with
    | nil => exact .nil
    | @cons a b _ _ h t ih =>
      rw [List.map_cons, List.map_cons]
      refine .cons ?_ ih
      by_cases y : a.1 = k
      · rw [if_pos y, if_pos (h.1 ▸ y)]
        exact ⟨h.1, hv⟩
      · rw [if_neg y, if_neg (h.1 ▸ y)]
        exact h
  · rw [if_neg z, if_neg z]
    clear ea z
    induction h with
    | nil => exact .cons ⟨rfl, hv⟩ .nil
    | cons h t ih => exact .cons h ih
end
section
variable {κ α : Type} [DecidableEq κ] [KeyY κ] {e : α → PyData}
theorem getA_kv {q : κ} : ∀ {xs : List (κ × α)}, getA (kvM e xs) (KeyY.kk q) = (getA xs q).map e
  | [] => rfl
  | p :: r => by
    unfold getA kvM
    rw [List.map_cons, List.find?_cons, List.find?_cons]
    by_cases h : p.1 = q
    · simp [h]
    · have hn : ¬ KeyY.kk p.1 = KeyY.kk q := fun z => h (KeyY.inj _ _ z)
      have ih := getA_kv (q := q) (xs := r)
      unfold getA kvM at ih
      simpa [h, hn] using ih
theorem hasA_kv {q : κ} {xs : List (κ × α)} : hasA (kvM e xs) (KeyY.kk q) = hasA xs q := by
  rw [← getA_has, ← getA_has, getA_kv, Option.isSome_map]
theorem putA_kv {q : κ} {v : α} {xs : List (κ × α)} : putA (kvM e xs) (KeyY.kk q) (e v) = kvM e (putA xs q v) := by
  unfold putA
  rw [hasA_kv]
  split
  · unfold kvM
    rw [List.map_map, List.map_map]
    refine List.map_congr_left fun p _ => ?_
    show (if KeyY.kk p.1 = KeyY.kk q then (KeyY.kk p.1, e v) else (KeyY.kk p.1, e p.2)) = (KeyY.kk (if p.1 = q then (p.1, v) else p).1, e (if p.1 = q then (p.1, v) else p).2)
    by_cases h : p.1 = q
    · rw [if_pos h, if_pos (congrArg _ h)]
    · rw [if_neg h, if_neg fun z => h (KeyY.inj _ _ z)]
  · unfold kvM
    rw [List.map_append]
    rfl
end
/-! ### rules by values -/
theorem u1 {X : Cx} (h : X.A.units + 64 < cLine) : X.A.units + 1 < cLine := Nat.lt_of_le_of_lt (Nat.add_le_add_left (by decide) _) h
def rIxM : R2 := fun x y H Q => ∃ a v, x = .ref a ∧ DGet H a y (some v) ∧ Q v H
theorem ix_M {X : Cx} (hu : X.A.units + 64 < cLine) : IxR X rIxM := by
  intro value slice pins s σ H x y v u Q I rx ry h hs
  obtain ⟨a, w, rfl, g, q⟩ := h
  obtain rfl : v = Value.ref a := rx
  have t := dict_typeIs I g
  have G : wpAny (model X.prog X.w) X.A (getItem (.ref a) u) (EP X pins σ Q) X.xe s := d_getItem (u1 hu) I g ry fun w' s3 I3 rw' => ⟨w, H, I3, rw', q⟩
  unfold subscriptTail
  refine wpAny_bind ?_
  rw [getitemInPython_of_ne t.not_modules]
  refine wpAny_bind (wpAny_specialOf (hT := t) PySem.F.slot_dict_getitem.lookup ?_)
  have fin : wpAny (model X.prog X.w) X.A (subscripted slice false (.ref a) u) (fun r s3 => wpAny (model X.prog X.w) X.A (letTemporaryGo value (.ref a) r >>= fun _ => pure r) (EP X pins σ Q) X.xe s3) X.xe s := by
    rw [hs]
    exact wpAny_operating (wpAny_mono G (fun r s3 z => wpAny_bind (wpAny_letTemporaryGo (wpAny_pure z))) fun _ _ z => z)
  first
    | exact (wpAny_pure (wpAny_bind (fin)))
    | exact (wpAny_bind (wpAny_pure (wpAny_bind fin)))
    | exact (wpAny_bind (fin))
def rInM (b : Bool) : R2 := fun y x H Q => ∃ a o, x = .ref a ∧ DGet H a y o ∧ Q (.bl (if b then !o.isSome else o.isSome)) H
theorem op_inM {X : Cx} (hu : X.A.units + 64 < cLine) : OpR X (compareOp .In) (rInM false) := by
  intro pins s σ H x y v u Q I rx ry h
  obtain ⟨a, o, rfl, g, q⟩ := h
  obtain rfl : u = Value.ref a := ry
  exact d_in (u1 hu) I g rx fun s3 I3 => ⟨.bl o.isSome, H, I3, rfl, q⟩
theorem op_notInM {X : Cx} (hu : X.A.units + 64 < cLine) : OpR X (compareOp .NotIn) (rInM true) := by
  intro pins s σ H x y v u Q I rx ry h
  obtain ⟨a, o, rfl, g, q⟩ := h
  obtain rfl : u = Value.ref a := ry
  exact d_notIn (u1 hu) I g rx fun s3 I3 => ⟨.bl (!o.isSome), H, I3, rfl, q⟩
def rSetM : V → V → V → Hp → (Hp → Prop) → Prop := fun o i v H Q => ∃ a H', o = .ref a ∧ DPut H a i v H' ∧ Q H'
theorem set_M {X : Cx} (hu : X.A.units + 64 < cLine) : PSet X rSetM := by
  intro pins s σ H o i v ov iv u Q I ro ri rv h
  obtain ⟨a, H', rfl, g, q⟩ := h
  obtain rfl : ov = Value.ref a := ro
  exact d_setItem (u1 hu) I g ri rv fun s3 I3 => ⟨H', I3, q⟩
/-! ### the ledger -/
abbrev plusM (L : Led) (p : Addr) (kvs : List (Key × PyData)) : Led := L ++ [(p, .dct kvs)]
theorem plusM_mem {L : Led} {p : Addr} {kvs : List (Key × PyData)} : (p, Mo.dct kvs) ∈ plusM L p kvs := List.mem_append_right _ List.mem_cons_self
theorem plusM_old {L : Led} {p a : Addr} {kvs : List (Key × PyData)} {m : Mo} (h : (a, m) ∈ L) : (a, m) ∈ plusM L p kvs := List.mem_append_left _ h
theorem up_plusM {L : Led} {p : Addr} {a b : List (Key × PyData)} (h : p ∉ L.ks) : up (plusM L p a) p (.dct b) = plusM L p b := by
  unfold up plusM
  rw [List.map_append]
  have e : L.map (fun q => if q.1 = p then (p, Mo.dct b) else q) = L := by
    refine (List.map_congr_left fun q hq => ?_).trans (List.map_id' L)
    exact if_neg fun z : q.1 = p => h (z ▸ List.mem_map.mpr ⟨q, hq, rfl⟩)
  rw [e]
  simp
theorem up_plusM_ne {M2 : Led} {p q : Addr} {A : List (Key × PyData)} {m : Mo} (h : p ≠ q) : up (plusM M2 q A) p m = plusM (up M2 p m) q A := by
  unfold up plusM
  rw [List.map_append]
  congr 1
  simp [Ne.symm h]
section
variable {C : Cz} {ε : Ev} {L L1 : Led} {k : Rs → Led → Prop} {K : PySem.W.Frag} {te to ti : TE} {P : Post}
theorem lok_ownM {K : PySem.W.Frag} {H : Hp} {p : Addr} (h : LOk K L H) (e : H p = none) : LOk K (plusM L p []) (upd H p (.dK [])) := by
  have hp := h.fresh e
  have ex : Ext (hid L H) (hid (plusM L p []) (upd H p (.dK []))) := (grow_own e).ext
  refine ⟨?_, fun q hq => ?_⟩
  · rw [Led.ks, List.map_append]
    refine List.nodup_append.mpr ⟨h.nd, by simp, fun a ha b hb => ?_⟩
    have eb : b = p := List.mem_singleton.mp hb
    rw [eb]
    exact fun z => hp (z ▸ ha)
  · rcases List.mem_append.mp hq with hq | hq
    · have z := h.at_ q hq
      have en : q.1 ≠ p := fun z => hp (z ▸ List.mem_map.mpr ⟨q, hq, rfl⟩)
      obtain ⟨a, m⟩ := q
      cases m with
      | drw =>
        obtain ⟨ns, z⟩ := z
        exact ⟨ns, by rw [upd_ne en]; exact z⟩
      | lst es =>
        obtain ⟨ys, z, y⟩ := z
        exact ⟨ys, by rw [upd_ne en]; exact z, rpAll_mono ex y⟩
      | dct es =>
        obtain ⟨ys, z, y⟩ := z
        exact ⟨ys, by rw [upd_ne en]; exact z, rpKv_mono ex y⟩
    · have e := List.mem_singleton.mp hq
      subst e
      exact ⟨[], upd_same, .nil⟩
theorem lok_upM {K : PySem.W.Frag} {H : Hp} {a : Addr} {ys : List (Key × V)} {kvs : List (Key × PyData)} (l : LOk K L H) (h : a ∈ L.ks) (r : RpK K (hid L H) ys kvs) : LOk K (up L a (.dct kvs)) (upd H a (.dK ys)) := by
  have ex : Ext (hid L H) (hid (Z.up L a (.dct kvs)) (upd H a (.dK ys))) := (grow_up h).ext
  refine ⟨by rw [up_ks]; exact l.nd, fun p hp => ?_⟩
  obtain ⟨q, hq, e⟩ := List.mem_map.mp hp
  by_cases z : q.1 = a
  · rw [if_pos z] at e
    subst e
    exact ⟨ys, upd_same, rpK_kv (rpK_mono ex r)⟩
  · rw [if_neg z] at e
    subst e
    have w := l.at_ q hq
    obtain ⟨b, m⟩ := q
    cases m with
    | drw =>
      obtain ⟨ns, w⟩ := w
      exact ⟨ns, by rw [upd_ne z]; exact w⟩
    | lst es =>
      obtain ⟨zs, w, y⟩ := w
      exact ⟨zs, by rw [upd_ne z]; exact w, rpAll_mono ex y⟩
    | dct es =>
      obtain ⟨zs, w, y⟩ := w
      exact ⟨zs, by rw [upd_ne z]; exact w, rpKv_mono ex y⟩
/-- {} -/
theorem cp_dnew (q : ∀ p, p ∉ L.ks → k (.own p) (plusM L p [])) : CP C tDNewK ε L k := fun σ H Q R X z p hp =>
  z _ (.own p) _ _ (grow_own hp) keeps_own (R.grow (grow_own hp) keeps_own (lok_ownM R.led hp)) ⟨rfl, Led.key plusM_mem⟩ (q p (R.led.fresh hp))
theorem isDct {K : PySem.W.Frag} {H : Hp} (l : LOk K L H) {a : Addr} {kvs : List (Key × PyData)} (m : (a, .dct kvs) ∈ L) : ∃ vs, H a = some (.dK vs) ∧ RpK K (hid L H) vs kvs := by
  obtain ⟨vs, e, r⟩ := l.at_ _ m
  exact ⟨vs, e, kv_rpK r⟩
theorem rp_key {K : PySem.W.Frag} {H : Hp} {v : V} {q : Key} (h : Rp K H v (kD q)) : v = kV q := by
  cases q with
  | inl i =>
    cases h
    rfl
  | inr x =>
    cases h
    rfl
/-- d[q] = e -/
theorem hs_setM (h : CP C te ε L fun r L1 => ∃ d, r = .dat d ∧ CP C to ε L1 fun x L2 => ∃ a, x = .own a ∧ CP C ti ε L2 fun y L3 => ∃ (kvs : List (Key × PyData)) (q : Key), y = .dat (kD q) ∧ (a, .dct kvs) ∈ L3 ∧ kvs.length < sizeLine ∧ P.nx ε (up L3 a (.dct (putA kvs q d)))) :
    HS C (tAsg te (gSub to ti rSetM)) ε L P := fun σ H D R X E =>
  h σ H _ R X fun v r L1 H1 g1 k1 R1 o1 ⟨d, er, h1⟩ => h1 σ H1 _ R1 (X.grow g1) fun w x L2 H2 g2 k2 R2 o2 ⟨a, ex, h2⟩ => h2 σ H2 _ R2 ((X.grow g1).grow g2) fun u y L3 H3 g3 k3 R3 o3 ⟨kvs, q, ey, m, hz, z⟩ => by
    subst er ex ey
    obtain ⟨rfl, _⟩ := o2
    have o3 : Rp C.K (hid L3 H3) u (kD q) := o3
    have eu := rp_key o3
    subst eu
    obtain ⟨vs, exs, hx⟩ := isDct R3.led m
    have ha : a ∈ L3.ks := Led.key m
    have g : Grow H3 L3 (upd H3 a (.dK (putK vs q v))) (up L3 a (.dct (putA kvs q d))) := grow_up ha
    have od : Rp C.K (hid L3 H3) v d := rp_mono (g2.trans g3).ext o1
    exact ⟨a, _, rfl, .inl ⟨vs, q, exs, rfl, by rw [rpK_len hx]; exact hz, rfl⟩, E.nx ε _ σ _ (((g1.trans g2).trans g3).trans g) (R3.grow g keeps_up (lok_upM R3.led ha (rpK_put hx od))) z⟩
/-! reading -/
/-- what a dict is: one that is written, one that is data -/
inductive DctAt (L : Led) : Rs → List (Key × PyData) → Prop
  | own {a : Addr} {kvs : List (Key × PyData)} (m : (a, .dct kvs) ∈ L) : DctAt L (.own a) kvs
  | dat (kvs : List (Key × PyData)) : DctAt L (.dat (.dict (kvs.map fun p => (kD p.1, p.2)))) kvs
theorem DctAt.ok {K : PySem.W.Frag} {H : Hp} (l : LOk K L H) {r : Rs} {v : V} {kvs : List (Key × PyData)} (d : DctAt L r kvs) (o : RsOk K L H v r) : ∃ a vs, v = .ref a ∧ Rd H a (.dK vs) ∧ RpK K (hid L H) vs kvs := by
  cases d with
  | own m =>
    obtain ⟨vs, e, h⟩ := isDct l m
    exact ⟨_, vs, o.1, .inl e, h⟩
  | dat kvs =>
    have o : Rp K (hid L H) v (.dict (kvs.map fun p => (kD p.1, p.2))) := o
    cases o with
    | dct e h => exact ⟨_, _, rfl, ext_rd hid_sub e, kv_rpK h⟩
theorem od_ixM {r : Rs} {kvs : List (Key × PyData)} {q : Key} {d : PyData} (m : DctAt L r kvs) (e : getA kvs q = some d) (z : k (.dat d) L) : OD C rIxM r (.dat (kD q)) L k := od_val (fun v w H l a b => by
  obtain ⟨p, vs, rfl, e1, h⟩ := m.ok l a
  have b : Rp C.K (hid L H) w (kD q) := b
  have eb := rp_key b
  subst eb
  rcases rpK_val (k := q) h with ⟨u, d', e2, e3, o⟩ | ⟨_, e3⟩
  · rw [e3] at e
    cases e
    exact ⟨u, o, fun Q f => ⟨p, u, rfl, .inl ⟨vs, q, e1, rfl, e2.symm⟩, f⟩⟩
  · rw [e3] at e
    cases e) z
theorem od_inM {r : Rs} {kvs : List (Key × PyData)} {q : Key} (m : DctAt L r kvs) (z : k (.dat (.bool (hasA kvs q))) L) : OD C (rInM false) (.dat (kD q)) r L k := od_val (fun w v H l b a => by
  obtain ⟨p, vs, rfl, e1, h⟩ := m.ok l a
  have b : Rp C.K (hid L H) w (kD q) := b
  have eb := rp_key b
  subst eb
  have eq : (valV vs q).isSome = hasA kvs q := by
    rw [← getA_has]
    rcases rpK_val (k := q) h with ⟨u, d', e2, e3, o⟩ | ⟨e2, e3⟩
    · rw [e2, e3]; rfl
    · rw [e2, e3]
      rfl
  exact ⟨.bl (hasA kvs q), .bl _, fun Q f => ⟨p, valV vs q, rfl, .inl ⟨vs, q, e1, rfl, rfl⟩, by rw [eq]; exact f⟩⟩) z
theorem od_notInM {r : Rs} {kvs : List (Key × PyData)} {q : Key} (m : DctAt L r kvs) (z : k (.dat (.bool (!hasA kvs q))) L) : OD C (rInM true) (.dat (kD q)) r L k := od_val (fun w v H l b a => by
  obtain ⟨p, vs, rfl, e1, h⟩ := m.ok l a
  have b : Rp C.K (hid L H) w (kD q) := b
  have eb := rp_key b
  subst eb
  have eq : (valV vs q).isSome = hasA kvs q := by
    rw [← getA_has]
    rcases rpK_val (k := q) h with ⟨u, d', e2, e3, o⟩ | ⟨e2, e3⟩
    · rw [e2, e3]; rfl
    · rw [e2, e3]
      rfl
  exact ⟨.bl (!hasA kvs q), .bl _, fun Q f => ⟨p, valV vs q, rfl, .inl ⟨vs, q, e1, rfl, rfl⟩, by rw [if_pos rfl, eq]; exact f⟩⟩) z
end
end Y

set_option Elab.async false
set_option linter.all false
set_option maxRecDepth 100000
set_option maxHeartbeats 2000000
/-! rules for texts, sets, dicts by types -/
namespace Y
open PySem PySem.Spec PyProof.Rows L2 Z
section
variable {C : Cz} {ε ε' : Ev} {L L1 L2 : Led} {k : Rs → Led → Prop} {K : PySem.W.Frag} {te tb : TE}
/-! ### texts -/
theorem od_inSgn {x z : Str} (h : x.length = 1) (q : k (.dat (.bool (inB x (sgns z)))) L) : OD C (rInZ K) (.dat (.str x)) (.dat (.str z)) L k := by
  obtain ⟨⟨l⟩⟩ := x
  match l, h with
  | [c], _ =>
    have e : decide (c ∈ z.cps.toList) = inB (⟨#[c]⟩ : Str) (sgns z) := by
      unfold inB sgns
      rw [decide_eq_decide, List.mem_map]
      exact ⟨fun h => ⟨c, h, rfl⟩, fun ⟨d, hd, e⟩ => by
        injection e with e
        have := congrArg Array.toList e
        injection this with e1
        exact e1 ▸ hd⟩
    refine od_in_sign ?_
    rw [e]
    exact q
theorem od_notInSgn {x z : Str} (h : x.length = 1) (q : k (.dat (.bool (!inB x (sgns z)))) L) : OD C (rNotInZ K) (.dat (.str x)) (.dat (.str z)) L k := by
  obtain ⟨⟨l⟩⟩ := x
  match l, h with
  | [c], _ =>
    have e : decide (c ∈ z.cps.toList) = inB (⟨#[c]⟩ : Str) (sgns z) := by
      unfold inB sgns
      rw [decide_eq_decide, List.mem_map]
      exact ⟨fun h => ⟨c, h, rfl⟩, fun ⟨d, hd, e⟩ => by
        injection e with e
        have := congrArg Array.toList e
        injection this with e1
        exact e1 ▸ hd⟩
    refine od_notIn_sign ?_
    rw [e]
    exact q
def okInt (a : Str) : Bool := (PySem.intText? a).isSome && decide (a.length ≤ 640)
def intS (a : Str) : Int := (PySem.intText? a).getD 0
theorem cd_intS {a : Str} (h : okInt a = true) (q : k (.dat (.int (intS a))) L) : CD C rIntZ [.dat (.str a)] L k := by
  unfold okInt at h
  rw [Bool.and_eq_true, decide_eq_true_eq] at h
  refine cd_int_str ⟨?_, h.2⟩ q
  unfold intS
  cases e : PySem.intText? a with
  | none => rw [e] at h; cases h.1
  | some n => rfl
abbrev rStrY : List V → Hp → VK → Prop := fun xs H Q => (∃ i, xs = [V.int i] ∧ i.natAbs.log2 < 1920 ∧ Q (.str (toString i)) H) ∨ ∃ a, xs = [.str a] ∧ Q (.str a) H
theorem call_strY {X : Cx} : CallR X (.type "str") rStrY := call_str_int.or SkE.call_str_str
theorem cd_strI {i : Int} (h : i.natAbs.log2 < 1920) (q : k (.dat (.str (toString i))) L) : CD C rStrY [.dat (.int i)] L k := cd_or1 (cd_val (fun vs H l o => by
  obtain ⟨v, rfl, o1⟩ := rsAll_1 o
  cases o1
  exact ⟨.str _, .str _, fun Q f => ⟨i, rfl, h, f⟩⟩) q)
theorem cd_strS {a : Str} (q : k (.dat (.str a)) L) : CD C rStrY [.dat (.str a)] L k := cd_or2 (cd_val (fun vs H l o => by
  obtain ⟨v, rfl, o1⟩ := rsAll_1 o
  cases o1
  exact ⟨.str _, .str _, fun Q f => ⟨a, rfl, f⟩⟩) q)
theorem ev_join {a : Str} {ys : List Str} (h : EV C te ε L (.dat (.str a)) L1) (h2 : EV C tb ε L1 (.dat (eL eS ys)) L2) (hz : (ys.map (·.length)).sum + ys.length * a.length ≤ 16777216) (hK : C.K = K := by rfl) :
    EV C (tBM K "str" (rJoinZ K) te (tCons tb tNil)) ε L (.dat (.str (Txt.join a ys))) L2 := fun k q => by
  subst hK
  exact cp_bm (h _ ⟨⟨rfl, .inl rfl⟩, ca_cons (h2 _ (ca_nil (md_join hz q)))⟩)
/-! ### sorted -/
def rSortedSY (K : PySem.W.Frag) : List V → Hp → VK → Prop := fun vs H Q => ∃ (a : Addr) (xs : List Str), vs = [V.ref a] ∧ SqL K H a (xs.map V.str) ∧ ∀ p, H p = none → Q (.ref p) (upd H p (.lst ((sortS xs).map V.str)))
theorem cr_sortedSY {X : Cx} : CallR X (.builtin "sorted") (rSortedSY X.K) := by
  intro pins s σ H vs us Q I r h
  obtain ⟨a, xs, rfl, hs, q⟩ := h
  obtain ⟨its, rv, hl, hz⟩ := I.list hs
  rw [Vals.ref1 r]
  refine PyProof.Rows.sorted_strsAny hl.isList rv.strs (by rw [← rv.length]; exact hz) fun out ys h1 h2 h3 => ?_
  obtain ⟨ep, he⟩ := PyProof.Rows.sortedAll_at s.heap its out
  have ey := sortS_uniq h2 (sortedS_pair h3)
  have hlen : (ys.map V.str).length ≤ sizeLine := by
    rw [List.length_map, h2.length_eq]
    rw [List.length_map] at hz
    exact hz
  refine ⟨.ref _, upd H (s.heap.objs.size + 1) (.lst (ys.map V.str)), I.laid (t' := s.toks) (fun _ _ => PyProof.Rows.sortedAll_old) (Nat.le_succ _) ⟨hlen, out.toList, ep, vals_of_strs h1, he⟩, rfl, ?_⟩
  rw [ey]
  exact q _ (I.hok.fresh (Nat.le_succ _))
def rSortDY : List V → Hp → VK → Prop := fun vs H Q => (∃ (a : Addr) (kvs : List (Key × V)) (ks : List Str), vs = [V.ref a] ∧ Rd H a (.dK kvs) ∧ kvs.map (·.1) = ks.map Sum.inr ∧ ks.length < 64 ∧ ∀ ys p, ys.Perm ks → sortedS ys = true → H p = none → Q (.ref p) (upd H p (.lst (ys.map V.str)))) ∨
  (∃ (a : Addr) (kvs : List (Key × V)) (ks : List Int), vs = [V.ref a] ∧ Rd H a (.dK kvs) ∧ kvs.map (·.1) = ks.map Sum.inl ∧ ks.length < 64 ∧ ∀ (ys : List Int) (p : Addr), ys.Perm ks → ys.Pairwise (· ≤ ·) → H p = none → Q (.ref p) (upd H p (.lst (ys.map V.int))))
theorem cr_sortDY {X : Cx} (hc : X.calm = true) : CallR X (.builtin "sorted") rSortDY := (call_sortedD hc).or (call_sortedDI hc)
def rSortedY (K : PySem.W.Frag) : List V → Hp → VK → Prop := fun vs H Q => rSortedI K vs H Q ∨ (rSortedSY K vs H Q ∨ rSortDY vs H Q)
theorem call_sortedY {X : Cx} (hc : X.calm = true) : CallR X (.builtin "sorted") (rSortedY X.K) := cr_sortedI.or (cr_sortedSY.or (cr_sortDY hc))
theorem cd_sortYI {ns : List Int} (q : k (.dat (.list ((sortI ns).map PyData.int))) L) : CD C (rSortedY K) [.dat (.list (ns.map PyData.int))] L k := cd_or1 (cd_sortI q)
theorem cd_sortYS {xs : List Str} (q : k (.dat (eL eS (sortS xs))) L) : CD C (rSortedY K) [.dat (eL eS xs)] L k := cd_or2 (cd_or1 (cd_lst (fun vs H l o => by
  obtain ⟨v, rfl, o1⟩ := rsAll_1 o
  cases o1 with
  | @lst p ys _ e ha =>
    have ex := strs_of ha
    subst ex
    exact ⟨(sortS xs).map V.str, rpAll_strs _, fun Q f => ⟨p, xs, rfl, SqL.of (hid_sub _ _ e), fun a h => f a h⟩⟩) q))
/-- the keys -/
def keysA {κ α : Type} (xs : List (κ × α)) : List κ := xs.map (·.1)
theorem rpK_keys {κ α : Type} [KeyY κ] {e : α → PyData} {H : Hp} : ∀ {xs : List (κ × α)} {vs : List (Key × V)}, RpK K H vs (kvM e xs) → vs.map (·.1) = (keysA xs).map KeyY.kk
  | [], _, h => by
    cases h
    rfl
  | p :: r, _, .cons (l₁ := vs) h t => by
    unfold keysA
    rw [List.map_cons, List.map_cons, List.map_cons, h.1]
    exact congrArg _ (rpK_keys (xs := r) t)
theorem cd_sortDS {α : Type} {e : α → PyData} {r : Rs} {xs : List (Str × α)} (m : DctAt L r (kvM e xs)) (hz : xs.length < 64) (q : k (.dat (eL eS (sortS (keysA xs)))) L) : CD C (rSortedY K) [r] L k := cd_or2 (cd_or2 (cd_or1 (cd_lst (fun vs H l o => by
  obtain ⟨v, rfl, o1⟩ := rsAll_1 o
  obtain ⟨a, vs, rfl, e1, h⟩ := m.ok l o1
  refine ⟨(sortS (keysA xs)).map V.str, rpAll_strs _, fun Q f => ⟨a, vs, keysA xs, rfl, e1, rpK_keys h, by unfold keysA; rw [List.length_map]; exact hz, fun ys p h1 h2 h3 => ?_⟩⟩
  rw [sortS_uniq h1 (sortedS_pair h2)]
  exact f p h3) q)))
theorem cd_sortDI {α : Type} {e : α → PyData} {r : Rs} {xs : List (Int × α)} (m : DctAt L r (kvM e xs)) (hz : xs.length < 64) (q : k (.dat (eL eI (sortI (keysA xs)))) L) : CD C (rSortedY K) [r] L k := cd_or2 (cd_or2 (cd_or2 (cd_lst (fun vs H l o => by
  obtain ⟨v, rfl, o1⟩ := rsAll_1 o
  obtain ⟨a, vs, rfl, e1, h⟩ := m.ok l o1
  refine ⟨(sortI (keysA xs)).map V.int, rpAll_ints _, fun Q f => ⟨a, vs, keysA xs, rfl, e1, rpK_keys h, by unfold keysA; rw [List.length_map]; exact hz, fun ys p h1 h2 h3 => ?_⟩⟩
  have ey : ys = sortI (keysA xs) := List.Perm.eq_of_pairwise (fun _ _ _ _ h h2 => Int.le_antisymm h h2) h2 (sortI_asc _) (h1.trans (sortI_perm _).symm)
  rw [ey]
  exact f p h3) q)))
/-! ### sorted(set(..)), len(set(..)) -/
theorem set_src {P : Program} {w : World} {H : Hp} {v : V} {Q : VK} {d : PyData} (o : Rp K H v d) {xs : List Str} (hd : d = eL eS xs ∨ d = eT eS xs) (hz : xs.length + 1 < scanBound) {Hs : Hp} (ex : Ext H Hs)
    (q : ∀ p, Hs p = none → Q (.ref p) (upd Hs p (SetGO P w (PySem.strKind P w) p (onceAll xs)))) : rSetY K P w [v] Hs Q := by
  rcases hd with rfl | rfl
  · cases o with
    | @lst p ys _ e ha =>
      have := strs_of ha
      subst this
      exact ⟨p, rfl, .inl ⟨xs, .inl (SqL.of (ex _ _ e)), hz, q⟩⟩
  · cases o with
    | @tup p ys _ e ha =>
      have := strs_of ha
      subst this
      exact ⟨p, rfl, .inl ⟨xs, .inr (ext_t ex e), hz, q⟩⟩
theorem set_srcI {P : Program} {w : World} {H : Hp} {v : V} {Q : VK} {d : PyData} (o : Rp K H v d) {xs : List Int} (hd : d = eL eI xs ∨ d = eT eI xs) (hz : xs.length + 1 < scanBound) {Hs : Hp} (ex : Ext H Hs)
    (q : ∀ p, Hs p = none → Q (.ref p) (upd Hs p (SetGO P w (PySem.intKind P w) p (onceAll xs)))) : rSetY K P w [v] Hs Q := by
  rcases hd with rfl | rfl
  · cases o with
    | @lst p ys _ e ha =>
      have := ints_of ha
      subst this
      exact ⟨p, rfl, .inr ⟨xs, .inl (SqL.of (ex _ _ e)), hz, q⟩⟩
  · cases o with
    | @tup p ys _ e ha =>
      have := ints_of ha
      subst this
      exact ⟨p, rfl, .inr ⟨xs, .inr (ext_t ex e), hz, q⟩⟩
variable {P : Program} {w : World}
theorem ev_sortSetS {d : PyData} {xs : List Str} (h : EV C te ε L (.dat d) L1) (hd : d = eL eS xs ∨ d = eT eS xs) (hz : xs.length + 1 < scanBound) (hK : C.K = K := by rfl) :
    EV C (tCB (rSortSetY P w) (tCons (tCB (rSetY K P w) (tCons te tNil)) tNil)) ε L (.dat (eL eS (usortS xs))) L1 := fun k q σ H Q R X z => by
  subst hK
  refine h (fun r L' => r = .dat d ∧ L' = L1) ⟨rfl, rfl⟩ σ H _ R X fun v r L2 H1 g1 k1 R1 o1 ⟨er, el⟩ => ?_
  subst er el
  show rSetY C.K P w [v] H1 (fun x H2 => rSortSetY P w [x] H2 Q)
  refine set_src o1 hd hz hid_sub fun p hp => ⟨p, rfl, .inl ⟨_, upd_same, fun p2 h4 => ?_⟩⟩
  have g2 : Grow H1 L2 (upd H1 p (SetGO P w (PySem.strKind P w) p (onceAll xs))) L2 := grow_new hp
  have l2 := R1.led.new (o := SetGO P w (PySem.strKind P w) p (onceAll xs)) hp
  have R2 := R1.grow g2 (Keeps.refl _) l2
  have g3 : Grow (upd H1 p (SetGO P w (PySem.strKind P w) p (onceAll xs))) L2 (upd (upd H1 p (SetGO P w (PySem.strKind P w) p (onceAll xs))) p2 (.lst ((sortS (onceAll xs)).map V.str))) L2 := grow_new h4
  exact z _ (.dat (eL eS (usortS xs))) L2 _ ((g1.trans g2).trans g3) k1 (R2.grow g3 (Keeps.refl _) (l2.new h4)) (.lst (by rw [hid_out (l2.fresh h4)]; exact upd_same) (rpAll_strs _)) q
theorem ev_sortSetI {d : PyData} {xs : List Int} (h : EV C te ε L (.dat d) L1) (hd : d = eL eI xs ∨ d = eT eI xs) (hz : xs.length + 1 < scanBound) (hK : C.K = K := by rfl) :
    EV C (tCB (rSortSetY P w) (tCons (tCB (rSetY K P w) (tCons te tNil)) tNil)) ε L (.dat (eL eI (usort xs))) L1 := fun k q σ H Q R X z => by
  subst hK
  refine h (fun r L' => r = .dat d ∧ L' = L1) ⟨rfl, rfl⟩ σ H _ R X fun v r L2 H1 g1 k1 R1 o1 ⟨er, el⟩ => ?_
  subst er el
  have eu : sortI (onceAll xs) = usort xs := usort_of (sortI_perm _) (sortI_asc _)
  show rSetY C.K P w [v] H1 (fun x H2 => rSortSetY P w [x] H2 Q)
  refine set_srcI o1 hd hz hid_sub fun p hp => ⟨p, rfl, .inr ⟨_, upd_same, fun p2 h4 => ?_⟩⟩
  have g2 : Grow H1 L2 (upd H1 p (SetGO P w (PySem.intKind P w) p (onceAll xs))) L2 := grow_new hp
  have l2 := R1.led.new (o := SetGO P w (PySem.intKind P w) p (onceAll xs)) hp
  have R2 := R1.grow g2 (Keeps.refl _) l2
  have g3 : Grow (upd H1 p (SetGO P w (PySem.intKind P w) p (onceAll xs))) L2 (upd (upd H1 p (SetGO P w (PySem.intKind P w) p (onceAll xs))) p2 (.lst ((sortI (onceAll xs)).map V.int))) L2 := grow_new h4
  exact z _ (.dat (eL eI (usort xs))) L2 _ ((g1.trans g2).trans g3) k1 (R2.grow g3 (Keeps.refl _) (l2.new h4)) (.lst (by rw [hid_out (l2.fresh h4), eu]; exact upd_same) (rpAll_ints _)) q
theorem ev_lenSetS {d : PyData} {xs : List Str} (h : EV C te ε L (.dat d) L1) (hd : d = eL eS xs ∨ d = eT eS xs) (hz : xs.length + 1 < scanBound) (hK : C.K = K := by rfl) :
    EV C (tCB (rLenSetY P w) (tCons (tCB (rSetY K P w) (tCons te tNil)) tNil)) ε L (.dat (.int ((onceAll xs).length : Int))) L1 := fun k q σ H Q R X z => by
  subst hK
  refine h (fun r L' => r = .dat d ∧ L' = L1) ⟨rfl, rfl⟩ σ H _ R X fun v r L2 H1 g1 k1 R1 o1 ⟨er, el⟩ => ?_
  subst er el
  show rSetY C.K P w [v] H1 (fun x H2 => rLenSetY P w [x] H2 Q)
  refine set_src o1 hd hz hid_sub fun p hp => ⟨p, rfl, .inl ⟨_, upd_same, ?_⟩⟩
  have g2 : Grow H1 L2 (upd H1 p (SetGO P w (PySem.strKind P w) p (onceAll xs))) L2 := grow_new hp
  exact z _ (.dat (.int _)) L2 _ (g1.trans g2) k1 (R1.grow g2 (Keeps.refl _) (R1.led.new hp)) (.int _) q
theorem ev_lenSetI {d : PyData} {xs : List Int} (h : EV C te ε L (.dat d) L1) (hd : d = eL eI xs ∨ d = eT eI xs) (hz : xs.length + 1 < scanBound) (hK : C.K = K := by rfl) :
    EV C (tCB (rLenSetY P w) (tCons (tCB (rSetY K P w) (tCons te tNil)) tNil)) ε L (.dat (.int ((onceAll xs).length : Int))) L1 := fun k q σ H Q R X z => by
  subst hK
  refine h (fun r L' => r = .dat d ∧ L' = L1) ⟨rfl, rfl⟩ σ H _ R X fun v r L2 H1 g1 k1 R1 o1 ⟨er, el⟩ => ?_
  subst er el
  show rSetY C.K P w [v] H1 (fun x H2 => rLenSetY P w [x] H2 Q)
  refine set_srcI o1 hd hz hid_sub fun p hp => ⟨p, rfl, .inr ⟨_, upd_same, ?_⟩⟩
  have g2 : Grow H1 L2 (upd H1 p (SetGO P w (PySem.intKind P w) p (onceAll xs))) L2 := grow_new hp
  exact z _ (.dat (.int _)) L2 _ (g1.trans g2) k1 (R1.grow g2 (Keeps.refl _) (R1.led.new hp)) (.int _) q
/-! ### dicts by types -/
section
variable {κ α : Type} [DecidableEq κ] [KeyY κ] {e : α → PyData}
theorem od_ixA [Inhabited α] {r : Rs} {xs : List (κ × α)} {q : κ} (m : DctAt L r (kvM e xs)) (h : hasA xs q = true) (z : k (.dat (e (atA xs q))) L) : OD C rIxM r (.dat (kD (KeyY.kk q))) L k :=
  od_ixM m (by rw [getA_kv, atA_get h]; rfl) z
theorem od_inA {r : Rs} {xs : List (κ × α)} {q : κ} (m : DctAt L r (kvM e xs)) (z : k (.dat (.bool (hasA xs q))) L) : OD C (rInM false) (.dat (kD (KeyY.kk q))) r L k := od_inM m (by rw [hasA_kv]; exact z)
theorem od_notInA {r : Rs} {xs : List (κ × α)} {q : κ} (m : DctAt L r (kvM e xs)) (z : k (.dat (.bool (!hasA xs q))) L) : OD C (rInM true) (.dat (kD (KeyY.kk q))) r L k := od_notInM m (by rw [hasA_kv]; exact z)
theorem dctO {p : Addr} {xs : List (κ × α)} (m : (p, .dct (kvM e xs)) ∈ L) : DctAt L (.own p) (kvM e xs) := .own m
theorem dctD {xs : List (κ × α)} : DctAt L (.dat (eM e xs)) (kvM e xs) := .dat _
variable {σ l ρ : Type} {F : Fx ρ} {N : NR σ} {M : NR l} {u : TS} {to ti : TE}
/-- x = {} -/
theorem hv_ownM {i : Nat} {q : List (κ × α) → Ctl σ l ρ} (h2 : ∀ p x, p ∉ L.ks → HV F N M u (ε.set i (some (.own p))) (plusM L p (kvM e x)) (q x)) : HV F N M (tSeq (tAsg tDNewK (gName i)) u) ε L (lt ([] : List (κ × α)) q) := fun P A =>
  hs_seq (hs_asg (cp_dnew fun p hp => h2 p [] hp P A))
/-- x[y] = z -/
theorem hv_setM {p : Addr} {xs : List (κ × α)} {y : κ} {v : α} {q : List (κ × α) → Ctl σ l ρ} {Lf : List (κ × α) → Led} (h : EV F.C te ε L (.dat (e v)) L) (ho : EV F.C to ε L (.own p) L) (hi : EV F.C ti ε L (.dat (kD (KeyY.kk y))) L)
    (hm : (p, .dct (kvM e xs)) ∈ L) (hz : xs.length < sizeLine) (hL : ∀ l' : List (κ × α), up L p (.dct (kvM e l')) = Lf l') (h2 : ∀ x, HV F N M u ε (Lf x) (q x)) : HV F N M (tSeq (tAsg te (gSub to ti rSetM)) u) ε L (lt (putA xs y v) q) := fun P A =>
  hs_seq (hs_setM (h _ ⟨e v, rfl, ho _ ⟨p, rfl, hi _ ⟨kvM e xs, KeyY.kk y, rfl, hm, by unfold kvM; rw [List.length_map]; exact hz, by rw [putA_kv, hL]; exact h2 _ P A⟩⟩⟩))
/-- for the ledger's way from a written dict to data -/
theorem frzM {L' M2 : Led} {p : Addr} {xs : List (κ × α)} (m : (p, .dct (kvM e xs)) ∈ L') (h : p ∉ M2.ks) : RsWk L' M2 (.own p) (.dat (eM e xs)) := .frzM m h
end
end
end Y

set_option Elab.async false
set_option linter.all false
set_option maxRecDepth 100000
set_option maxHeartbeats 2000000
/-! for over dicts (data): the dict is locked while the loop goes -/
namespace Y
open PySem PySem.Spec PyProof.Rows L2 Z
/-- the same things, dicts perhaps locked or unlocked -/
def Lk (H H' : Hp) : Prop := ∀ a o, H a = some o → H' a = some o ∨ ∃ kvs, (o = .dK kvs ∨ ∃ od, o = .frz od (.dK kvs)) ∧ Rd H' a (.dK kvs)
theorem lk_lst {H H' : Hp} (e : Lk H H') {a : Addr} {xs : List V} (h : H a = some (.lst xs)) : H' a = some (.lst xs) := by
  rcases e a _ h with h | ⟨kvs, h | ⟨od, h⟩, _⟩
  · exact h
  · cases h
  · cases h
theorem lk_rdL {H H' : Hp} (e : Lk H H') {a : Addr} {xs : List V} (h : Rd H a (.lst xs)) : Rd H' a (.lst xs) := by
  rcases h with h | ⟨o, h⟩
  · exact .inl (lk_lst e h)
  · rcases e a _ h with h | ⟨kvs, h | ⟨od, h⟩, _⟩
    · exact .inr ⟨o, h⟩
    · cases h
    · cases h
theorem lk_rdT {H H' : Hp} (e : Lk H H') {a : Addr} {xs : List V} (h : Rd H a (.tup xs)) : Rd H' a (.tup xs) := by
  rcases h with h | ⟨o, h⟩
  · rcases e a _ h with h | ⟨kvs, h | ⟨od, h⟩, _⟩
    · exact .inl h
    · cases h
    · cases h
  · rcases e a _ h with h | ⟨kvs, h | ⟨od, h⟩, _⟩
    · exact .inr ⟨o, h⟩
    · cases h
    · cases h
theorem lk_rdK {H H' : Hp} (e : Lk H H') {a : Addr} {xs : List (Key × V)} (h : Rd H a (.dK xs)) : Rd H' a (.dK xs) := by
  rcases h with h | ⟨o, h⟩
  · rcases e a _ h with h | ⟨kvs, h | ⟨od, h⟩, r⟩
    · exact .inl h
    · cases h
      exact r
    · cases h
  · rcases e a _ h with h | ⟨kvs, h | ⟨od, h⟩, r⟩
    · exact .inr ⟨o, h⟩
    · cases h
    · cases h
      exact r
section
variable {K : PySem.W.Frag}
theorem lk_sqT {H H' : Hp} (e : Lk H H') {a : Addr} {xs : List V} (h : SqT K H a xs) : SqT K H' a xs := h.imp (lk_rdT e) id
theorem lk_sqL {H H' : Hp} (e : Lk H H') {a : Addr} {xs : List V} (h : SqL K H a xs) : SqL K H' a xs := h.imp (lk_rdL e) id
mutual
theorem rp_lk {H H' : Hp} (e : Lk H H') : ∀ {v : V} {d : PyData}, Rp K H v d → Rp K H' v d
  | _, _, .non => .non
  | _, _, .bl b => .bl b
  | _, _, .int i => .int i
  | _, _, .str x => .str x
  | _, _, .lst s h => .lst (lk_lst e s) (rpAll_lk e h)
  | _, _, .tup s h => .tup (lk_sqT e s) (rpAll_lk e h)
  | _, _, .dct s h => .dct (lk_rdK e s) (rpKv_lk e h)
theorem rpAll_lk {H H' : Hp} (e : Lk H H') : ∀ {vs : List V} {ds : List PyData}, RpAll K H vs ds → RpAll K H' vs ds
  | _, _, .nil => .nil
  | _, _, .cons h t => .cons (rp_lk e h) (rpAll_lk e t)
theorem rpKv_lk {H H' : Hp} (e : Lk H H') : ∀ {vs : List (Key × V)} {ds : List (PyData × PyData)}, RpKv K H vs ds → RpKv K H' vs ds
  | _, _, .nil => .nil
  | _, _, .cons h t => .cons (rp_lk e h) (rpKv_lk e t)
end
theorem hid_lk {L : Led} {H H' : Hp} (e : Lk H H') : Lk (hid L H) (hid L H') := fun a o h => by
  by_cases ha : a ∈ L.ks
  · rw [hid_in ha] at h
    cases h
  · rw [hid_out ha] at h ⊢
    rcases e a o h with q | ⟨kvs, q, r⟩
    · exact .inl q
    · refine .inr ⟨kvs, q, ?_⟩
      rcases r with r | ⟨od, r⟩
      · exact .inl (by rw [hid_out ha]; exact r)
      · exact .inr ⟨od, by rw [hid_out ha]; exact r⟩
theorem lok_lk {L : Led} {H H' : Hp} (l : LOk K L H) (s : ∀ a ∈ L.ks, H' a = H a) (e : Lk H H') : LOk K L H' := by
  refine ⟨l.nd, fun p hp => ?_⟩
  have q := l.at_ p hp
  have ea := s p.1 (List.mem_map.mpr ⟨p, hp, rfl⟩)
  obtain ⟨a, m⟩ := p
  cases m with
  | drw =>
    obtain ⟨ns, z⟩ := q
    exact ⟨ns, ea.trans z⟩
  | lst ds =>
    obtain ⟨xs, z, y⟩ := q
    exact ⟨xs, ea.trans z, rpAll_lk (hid_lk e) y⟩
  | dct ds =>
    obtain ⟨xs, z, y⟩ := q
    exact ⟨xs, ea.trans z, rpKv_lk (hid_lk e) y⟩
theorem rsok_lk {L : Led} {H H' : Hp} (e : Lk H H') {v : V} {r : Rs} (h : RsOk K L H v r) : RsOk K L H' v r := by
  cases r with
  | dat d => exact rp_lk (hid_lk e) h
  | own a => exact h
  | raw w => exact h
  | scr ns =>
    obtain ⟨a, q, s⟩ := h
    exact ⟨a, q, lk_sqL (hid_lk e) s⟩
theorem rel_lk {L : Led} {ε : Ev} {σ : L2.St} {H H' : Hp} (R : Rel K L ε σ H) (s : ∀ a ∈ L.ks, H' a = H a) (e : Lk H H') : Rel K L ε σ H' :=
  ⟨R.len, fun i r hr => let ⟨v, a, o⟩ := R.slot i r hr; ⟨v, a, rsok_lk e o⟩, lok_lk R.led s e⟩
theorem lk_lock {H : Hp} {d : Addr} {kvs : List (Key × V)} {od : Obj} (h : H d = some (.dK kvs)) : Lk H (upd H d (.frz od (.dK kvs))) := fun a o e => by
  by_cases z : a = d
  · subst z
    rw [h] at e
    cases e
    exact .inr ⟨kvs, .inl rfl, .inr ⟨od, upd_same⟩⟩
  · exact .inl (by rw [upd_ne z]; exact e)
theorem lk_open {H : Hp} {d : Addr} {kvs : List (Key × V)} {od : Obj} (h : H d = some (.frz od (.dK kvs))) : Lk H (upd H d (.dK kvs)) := fun a o e => by
  by_cases z : a = d
  · subst z
    rw [h] at e
    cases e
    exact .inr ⟨kvs, .inr ⟨od, rfl⟩, .inl upd_same⟩
  · exact .inl (by rw [upd_ne z]; exact e)
end
/-- locked, if it isn't yet -/
def tLockO (t : TS) : TS := fun D σ H => tLock t D σ H ∨ t D σ H
theorem ps_lockO {X : Cx} {st : Stmt} {t : TS} (h : PS X st t) : PS X st (tLockO t) := ⟨fun pins s σ H D I hw => hw.elim (fun q => (ps_lock h).run pins s σ H D I q) fun q => h.run pins s σ H D I q⟩
abbrev noK (C : Cz) : Cz := ⟨C.K, C.W, fun _ _ _ => False⟩
section
variable {C : Cz} {ε : Ev} {L : Led} {P : Post} {t tb : TS} {g : TG}
/-- inside: whenever the dict at the name's value stands locked -/
theorem hs_lockO {i : Nat} {kvs : List (Key × PyData)} (hx : ε[i]? = some (some (.dat (.dict (kvs.map fun p => (kD p.1, p.2))))))
    (h : ∀ (a : Addr) (vs : List (Key × V)) (od : Obj) (σ : L2.St) (H : Hp) (D : Ends), σ[i]? = some (some (.ref a)) → H a = some (.frz od (.dK vs)) → a ∉ L.ks → RpK C.K (hid L H) vs kvs → Rel C.K L ε σ H → EndsOk C.K L H P D → t D σ H) : HS C (tLockO t) ε L P := fun σ H D R X E => by
  obtain ⟨v, ev, o⟩ := R.slot i _ hx
  have o : Rp C.K (hid L H) v (.dict (kvs.map fun p => (kD p.1, p.2))) := o
  cases o with
  | @dct a vs _ e hr =>
    have hr := kv_rpK hr
    have ha : a ∉ L.ks := fun z => by
      rcases e with e | ⟨od, e⟩
      · rw [hid_in z] at e
        cases e
      · rw [hid_in z] at e
        cases e
    rcases e with e | ⟨od, e⟩
    · rw [hid_out ha] at e
      refine .inl ⟨a, .dK vs, e, trivial, fun od => ?_⟩
      have hs : ∀ b ∈ L.ks, upd H a (.frz od (.dK vs)) b = H b := fun b hb => upd_ne fun z : b = a => ha (z ▸ hb)
      have lk := lk_lock (od := od) e
      have back : ∀ (L' : Led) (H' : Hp), Grow (upd H a (.frz od (.dK vs))) L H' L' → H' a = some (.frz od (.dK vs)) ∧ a ∉ L'.ks ∧ Grow H L (upd H' a (.dK vs)) L' := fun L' H' gr => by
        have e2 : H' a = some (.frz od (.dK vs)) := gr.old a _ upd_same ha
        refine ⟨e2, fun z => ?_, ⟨fun b u eb nb => ?_, fun b hb => ?_⟩⟩
        · rcases gr.new a z with z | z
          · exact ha z
          · rw [upd_same] at z
            cases z
        · by_cases q : b = a
          · subst q
            rw [e] at eb
            cases eb
            exact upd_same
          · rw [upd_ne q]
            exact gr.old b u (by rw [upd_ne q]; exact eb) nb
        · rcases gr.new b hb with z | z
          · exact .inl z
          · by_cases q : b = a
            · subst q
              rw [upd_same] at z
              cases z
            · exact .inr (by rw [upd_ne q] at z; exact z)
      have unl : ∀ (L' : Led) (H' : Hp), a ∉ L'.ks → ∀ b ∈ L'.ks, upd H' a (.dK vs) b = H' b := fun L' H' na b hb => upd_ne fun z : b = a => na (z ▸ hb)
      refine h a vs od σ _ _ ev upd_same ha (Paired.mapP hr fun _ _ q => ⟨q.1, rp_lk (hid_lk lk) q.2⟩) (rel_lk R hs lk) ⟨fun e' L' σ' H' gr R' q => ?_, fun v r L' H' gr l o q => ?_, fun e' L' σ' H' gr R' q => ?_, fun e' L' σ' H' gr R' q => ?_⟩
      · obtain ⟨e2, na, g2⟩ := back L' H' gr
        exact ⟨e2, E.nx e' L' σ' _ g2 (rel_lk R' (unl L' H' na) (lk_open e2)) q⟩
      · obtain ⟨e2, na, g2⟩ := back L' H' gr
        exact ⟨e2, E.rt v r L' _ g2 (lok_lk l (unl L' H' na) (lk_open e2)) (rsok_lk (lk_open e2) o) q⟩
      · obtain ⟨e2, na, g2⟩ := back L' H' gr
        exact ⟨e2, E.bk e' L' σ' _ g2 (rel_lk R' (unl L' H' na) (lk_open e2)) q⟩
      · obtain ⟨e2, na, g2⟩ := back L' H' gr
        exact ⟨e2, E.ct e' L' σ' _ g2 (rel_lk R' (unl L' H' na) (lk_open e2)) q⟩
    · rw [hid_out ha] at e
      exact .inr (h a vs od σ H D ev e ha hr R E)
/-- what is walked over, once the dict is locked -/
def WalksD (K : PySem.W.Frag) (wi : TI) (i : Nat) (f : Key × PyData → PyData) : Prop :=
  ∀ (L : Led) (σ : L2.St) (H : Hp) (a : Addr) (vs : List (Key × V)) (kvs : List (Key × PyData)) (od : Obj), σ[i]? = some (some (.ref a)) → H a = some (.frz od (.dK vs)) → a ∉ L.ks → RpK K (hid L H) vs kvs →
    ∃ J, ItOk K L H J (kvs.map f) ∧ ∀ R : It → Hp → Prop, R J H → wi σ H R
theorem rp_kV {K : PySem.W.Frag} {H : Hp} (q : Key) : Rp K H (kV q) (kD q) := by
  cases q with
  | inl i => exact .int i
  | inr x => exact .str x
theorem rpK_at {K : PySem.W.Frag} {H : Hp} : ∀ {vs : List (Key × V)} {kvs : List (Key × PyData)}, RpK K H vs kvs → ∀ (i : Nat) (p : Key × PyData), kvs[i]? = some p → ∃ v, vs[i]? = some (p.1, v) ∧ Rp K H v p.2
  | _, _, .nil, i, p, h => by simp at h
  | (k, v) :: _, _ :: _, .cons h t, 0, p, e => by
    simp only [List.getElem?_cons_zero, Option.some.injEq] at e
    subst e
    obtain ⟨h1, h2⟩ := h
    have h1 : k = _ := h1
    exact ⟨v, by rw [← h1]; rfl, h2⟩
  | _ :: _, _ :: _, .cons h t, i + 1, p, e => by
    rw [List.getElem?_cons_succ] at e ⊢
    exact rpK_at t i p e
theorem walks_items {K : PySem.W.Frag} {i : Nat} : WalksD K (iItems (tVar i)) i fun p => .tuple [kD p.1, p.2] := fun L σ H a vs kvs od ev e ha hr => by
  refine ⟨Iti a od vs, fun L' H' gr l j => ⟨fun hj => ⟨gr.old a _ e ha, ?_⟩, fun d hd => ?_⟩, fun R q => ⟨_, ev, a, od, vs, rfl, e, q⟩⟩
  · rw [hj, List.length_map, rpK_len hr]
    exact Nat.le_refl _
  · rw [List.getElem?_map] at hd
    cases hk : kvs[j]? with
    | none =>
      rw [hk] at hd
      cases hd
    | some p =>
      rw [hk] at hd
      cases hd
      obtain ⟨v, hv, hp⟩ := rpK_at hr j p hk
      refine ⟨⟨gr.old a _ e ha, (List.getElem?_eq_some_iff.mp hv).1⟩, fun w H2 hy => ?_⟩
      obtain ⟨T, k, u, h1, rfl, h3, rfl⟩ := hy
      rw [hv] at h1
      cases h1
      have l2 := l.new (o := .tup [kV p.1, v]) h3
      refine ⟨grow_new h3, l2, .tup (SqT.of (by rw [hid_out (l.fresh h3)]; exact upd_same)) (.cons (rp_kV _) (.cons (rp_mono (gr.trans (grow_new h3)).ext hp) .nil))⟩
theorem walks_keys {K : PySem.W.Frag} {i : Nat} : WalksD K (iKeys (tVar i)) i fun p => kD p.1 := fun L σ H a vs kvs od ev e ha hr => by
  refine ⟨Itk a od vs, fun L' H' gr l j => ⟨fun hj => ⟨gr.old a _ e ha, ?_⟩, fun d hd => ?_⟩, fun R q => ⟨_, ev, a, od, rfl, .inl ⟨vs, e, q⟩⟩⟩
  · rw [hj, List.length_map, rpK_len hr]
    exact Nat.le_refl _
  · rw [List.getElem?_map] at hd
    cases hk : kvs[j]? with
    | none =>
      rw [hk] at hd
      cases hd
    | some p =>
      rw [hk] at hd
      cases hd
      obtain ⟨v, hv, hp⟩ := rpK_at hr j p hk
      refine ⟨⟨gr.old a _ e ha, (List.getElem?_eq_some_iff.mp hv).1⟩, fun w H2 hy => ?_⟩
      obtain ⟨rfl, k, u, h1, rfl⟩ := hy
      rw [hv] at h1
      cases h1
      exact ⟨Grow.refl _ _, l, rp_kV _⟩
/-- for .. over a dict -/
theorem hs_forD {K : PySem.W.Frag} {wi : TI} {i : Nat} {kvs : List (Key × PyData)} {f : Key × PyData → PyData} (W : WalksD K wi i f) (hx : ε[i]? = some (some (.dat (.dict (kvs.map fun p => (kD p.1, p.2)))))) (I : Nat → Ev → Led → Prop) (i0 : I 0 ε L)
    (hs : ∀ j d ε' L', (kvs.map f)[j]? = some d → I j ε' L' → CG (noK C) g (.dat d) ε' L' fun ε2 L2 => HS (noK C) tb ε2 L2 { P with nx := I (j + 1), ct := I (j + 1), bk := P.nx }) (he : ∀ ε' L', I (kvs.map f).length ε' L' → P.nx ε' L') (hK : C.K = K := by rfl) : HS C (tLockO (tFor wi g tb)) ε L P := by
  subst hK
  refine hs_lockO hx fun a vs od σ H D ev e ha hr R E => ?_
  obtain ⟨J, jt, hw⟩ := W L σ H a vs kvs od ev e ha hr
  have F : HS (noK C) (tFor (fun σ' H' R' => (σ' = σ ∧ H' = H) → wi σ' H' R') g tb) ε L P := by
    refine hs_for fun σ' H' R' Rl X z => ?_
    rintro ⟨rfl, rfl⟩
    exact hw _ (z J (kvs.map f) L H' (Grow.refl _ _) (Keeps.refl _) Rl jt ⟨I, i0, hs, he⟩)
  exact F σ H D R (fun c e l s h g r k => k.elim) E ⟨rfl, rfl⟩
end
section
variable {σ l ρ α β κ : Type} [DecidableEq κ] [KeyY κ] {F : Fx ρ} {N : NR σ} {M : NR l} {ε : Ev} {L : Led} {g : TG} {tb : TS}
abbrev noF (F : Fx ρ) : Fx ρ := { F with C := noK F.C }
/-- no error comes out of a loop over a dict -/
def noEx : Ctl σ l ρ → Ctl σ l ρ
  | .ex _ => .bad
  | o => o
@[simp] theorem noEx_nx {s : σ} : noEx (.nx s : Ctl σ l ρ) = .nx s := rfl
@[simp] theorem noEx_rt {r : ρ} : noEx (.rt r : Ctl σ l ρ) = .rt r := rfl
theorem acc_noEx {P : Post} {o : Ctl σ l ρ} (h : Acc F N M P (noEx o)) : Acc (noF F) N M P o := by
  cases o with
  | ex c => exact h.elim
  | bad => exact h
  | nx s => exact h
  | ct s => exact h
  | bk s => exact h
  | rt r => exact h
theorem hv_forD (J : NR σ) {K : PySem.W.Frag} {wi : TI} {i : Nat} {f : Key × PyData → PyData} {e : α → PyData} {xs : List (κ × α)} {ys : List β} {g0 : β → PyData} {s0 : σ} {f' : β → σ → Ctl σ σ ρ} (W : WalksD K wi i f) (hx : ε[i]? = some (some (.dat (eM e xs)))) (hds : (kvM e xs).map f = ys.map g0) (h0 : J s0 ε L)
    (hb : ∀ x s ε' L', J s ε' L' → ∃ ε2, EG (noK F.C) g (.dat (g0 x)) ε' L' ε2 ∧ HV (noF F) J J tb ε2 L' (f' x s)) (hK : F.C.K = K := by rfl) : HV F J M (tLockO (tFor wi g tb)) ε L (noEx (forC ys s0 f')) := fun P A => by
  have A : Acc (noF F) J M P (forC ys s0 f') := acc_noEx A
  refine hs_forD W hx (fun j ε' L' => ∃ s, J s ε' L' ∧ Acc (noF F) J M P (forC (ys.drop j) s f')) ⟨s0, h0, A⟩ ?_ ?_ hK
  · rintro j d ε' L' hd ⟨s, hj, hA⟩
    rw [hds] at hd
    obtain ⟨x, hx2, rfl⟩ := map_get hd
    obtain ⟨ε2, h1, h2⟩ := hb x s ε' L' hj
    have hl : j < ys.length := (List.getElem?_eq_some_iff.mp hx2).1
    have ed : ys.drop j = x :: ys.drop (j + 1) := by
      rw [List.drop_eq_getElem_cons hl]
      congr 1
      have := List.getElem?_eq_getElem hl
      rw [this] at hx2
      exact Option.some.inj hx2
    exact h1 _ (h2 _ (acc_for hA ed))
  · rintro ε' L' ⟨s, hj, hA⟩
    rw [hds, List.length_map] at hA
    rw [List.drop_length] at hA
    exact hA ε' L' hj
theorem items_map {e : α → PyData} {g0 : κ × α → PyData} (h : ∀ q, PyData.tuple [kD (KeyY.kk q.1), e q.2] = g0 q) (xs : List (κ × α)) : (kvM e xs).map (fun p => PyData.tuple [kD p.1, p.2]) = xs.map g0 := by
  unfold kvM
  rw [List.map_map]
  exact List.map_congr_left fun q _ => h q
theorem keys_map {e : α → PyData} {g0 : κ → PyData} (h : ∀ q, kD (KeyY.kk q) = g0 q) (xs : List (κ × α)) : (kvM e xs).map (fun p => kD p.1) = (keysA xs).map g0 := by
  unfold kvM keysA
  rw [List.map_map, List.map_map]
  exact List.map_congr_left fun q _ => h q.1
end
end Y

set_option Elab.async false
set_option linter.all false
set_option maxRecDepth 100000
set_option maxHeartbeats 2000000
/-! bits; copies, displays and get of dicts; reversed lists -/
namespace Y
open PySem PySem.Spec PyProof.Rows L2 Z
section
variable {C : Cz} {ε : Ev} {L L1 L2 : Led} {k : Rs → Led → Prop} {K : PySem.W.Frag} {te td ty tx : TE}
theorem od_bor {i j : Int} (q : k (.dat (.int (Builtin.bitOr i j))) L) : OD C (rI0 fun i j => .int (Builtin.bitOr i j)) (.dat (.int i)) (.dat (.int j)) L k := od_int (g := fun a b => Builtin.bitOr a b) q
theorem od_band {i j : Int} (q : k (.dat (.int (Builtin.bitAnd i j))) L) : OD C (rI0 fun i j => .int (Builtin.bitAnd i j)) (.dat (.int i)) (.dat (.int j)) L k := od_int (g := fun a b => Builtin.bitAnd a b) q
theorem od_shl {i j : Int} (h : CShl i j) (q : k (.dat (.int (i * 2 ^ j.toNat))) L) : OD C (rI CShl fun i j => .int (i * 2 ^ j.toNat)) (.dat (.int i)) (.dat (.int j)) L k := od_intC (c := CShl) (g := fun i j => i * 2 ^ j.toNat) h q
theorem od_shr {i j : Int} (h : 0 ≤ j) (q : k (.dat (.int (i / 2 ^ j.toNat))) L) : OD C (rI (fun _ j => 0 ≤ j) fun i j => .int (i / 2 ^ j.toNat)) (.dat (.int i)) (.dat (.int j)) L k := od_intC (c := fun _ j => 0 ≤ j) (g := fun i j => i / 2 ^ j.toNat) h q
theorem ev_bits {i : Int} (h : EV C te ε L (.dat (.int i)) L1) : EV C (tBits te) ε L (.dat (.int (Builtin.Int.intBits i : Nat))) L1 := fun k q σ H Q R X z => by
  refine h (fun r L' => r = .dat (.int i) ∧ L' = L1) ⟨rfl, rfl⟩ σ H _ R X fun v r L2 H1 g1 k1 R1 o1 ⟨er, el⟩ => ?_
  subst er el
  have o1 : Rp C.K (hid L2 H1) v (.int i) := o1
  cases o1
  exact ⟨i, rfl, z _ (.dat (.int _)) L2 H1 g1 k1 R1 (.int _) q⟩
/-- list(reversed(xs)), xs data -/
theorem ev_lrev {α : Type} {e : α → PyData} {xs : List α} (h : EV C te ε L (.dat (eL e xs)) L1) (hK : C.K = K := by rfl) : EV C (tLRev K te) ε L (.dat (eL e xs.reverse)) L1 := fun k q σ H Q R X z => by
  subst hK
  refine h (fun r L' => r = .dat (eL e xs) ∧ L' = L1) ⟨rfl, rfl⟩ σ H _ R X fun v r L2 H1 g1 k1 R1 o1 ⟨er, el⟩ => ?_
  subst er el
  have o1 : Rp C.K (hid L2 H1) v (.list (xs.map e)) := o1
  cases o1 with
  | @lst a ys _ e1 ha =>
    refine ⟨a, ys, rfl, SqL.of (hid_sub _ _ e1), fun p hp => ?_⟩
    have g2 : Grow H1 L2 (upd H1 p (.lst ys.reverse)) L2 := grow_new hp
    have hr := rpAll_rev ha
    rw [← List.map_reverse] at hr
    exact z _ (.dat (eL e xs.reverse)) L2 _ (g1.trans g2) k1 (R1.grow g2 (Keeps.refl _) (R1.led.new hp)) (.lst (by rw [hid_out (R1.led.fresh hp)]; exact upd_same) (rpAll_mono g2.ext hr)) q
/-! dicts -/
/-- a new dict that is written on -/
def EWM (C : Cz) (te : TE) (ε : Ev) (L : Led) (kvs : List (Key × PyData)) (L' : Led) : Prop := ∀ k : Rs → Led → Prop, (∀ p, p ∉ L'.ks → k (.own p) (plusM L' p kvs)) → CP C te ε L k
theorem lok_ownMg {K : PySem.W.Frag} {H : Hp} {p : Addr} {ys : List (Key × V)} {kvs : List (Key × PyData)} (h : LOk K L H) (e : H p = none) (r : RpK K (hid L H) ys kvs) : LOk K (plusM L p kvs) (upd H p (.dK ys)) := by
  have l0 := lok_ownM h e
  have hp := h.fresh e
  have ex : Ext (hid L H) (hid (plusM L p []) (upd H p (.dK []))) := (grow_own e).ext
  have l1 := lok_upM (ys := ys) (kvs := kvs) l0 (Led.key plusM_mem) (rpK_mono ex r)
  rw [up_plusM hp] at l1
  have e2 : upd (upd H p (.dK [])) p (.dK ys) = upd H p (.dK ys) := funext fun a => by
    by_cases z : a = p
    · rw [z, upd_same, upd_same]
    · rw [upd_ne z, upd_ne z, upd_ne z]
  rwa [e2] at l1
def rDictD : List V → Hp → VK → Prop := fun xs H Q => ∃ (a : Addr) (kvs : List (Key × V)), xs = [.ref a] ∧ Rd H a (.dK kvs) ∧ ∀ p, H p = none → Q (.ref p) (upd H p (.dK kvs))
theorem call_dictY {X : Cx} : CallR X (.type "dict") rDictD := call_dictD
/-- dict(d) -/
theorem ewm_dict {r : Rs} {kvs : List (Key × PyData)} (h : EV C te ε L r L1) (m : DctAt L1 r kvs) : EWM C (tCB rDictD (tCons te tNil)) ε L kvs L1 := fun k q σ H Q R X z => by
  refine h (fun r' L' => r' = r ∧ L' = L1) ⟨rfl, rfl⟩ σ H _ R X fun v r' L2 H1 g1 k1 R1 o1 ⟨er, el⟩ => ?_
  subst er el
  obtain ⟨a, vs, rfl, e1, hr⟩ := m.ok R1.led o1
  refine ⟨a, vs, rfl, e1, fun p hp => ?_⟩
  have g2 : Grow H1 L2 (upd H1 p (.dK vs)) (plusM L2 p kvs) := grow_own hp
  exact z _ (.own p) _ _ (g1.trans g2) (k1.trans keeps_own) (R1.grow g2 keeps_own (lok_ownMg R1.led hp hr)) ⟨rfl, Led.key plusM_mem⟩ (q p (R1.led.fresh hp))
/-- d.get(q, x) -/
theorem ev_dget2 {r : Rs} {kvs : List (Key × PyData)} {y : Key} {d : PyData} (h : EV C td ε L r L) (m : DctAt L r kvs) (h2 : EV C ty ε L (.dat (kD y)) L) (h3 : EV C tx ε L (.dat d) L) : EV C (tDGet2 td ty tx) ε L (.dat ((getA kvs y).getD d)) L := fun k q σ H Q R X z => by
  refine h (fun r' L' => r' = r ∧ L' = L) ⟨rfl, rfl⟩ σ H _ R X fun v r' L1 H1 g1 k1 R1 o1 ⟨er, el⟩ => ?_
  subst er el
  obtain ⟨a, vs, rfl, e1, hr⟩ := m.ok R1.led o1
  refine ⟨a, rfl, .inl ⟨vs, e1⟩, ?_⟩
  refine h2 (fun r' L' => r' = .dat (kD y) ∧ L' = L1) ⟨rfl, rfl⟩ σ H1 _ R1 (X.grow g1) fun w r' L2 H2 g2 k2 R2 o2 ⟨er, el⟩ => ?_
  subst er el
  refine h3 (fun r' L' => r' = .dat d ∧ L' = L2) ⟨rfl, rfl⟩ σ H2 _ R2 ((X.grow g1).grow g2) fun u r' L3 H3 g3 k3 R3 o3 ⟨er, el⟩ => ?_
  subst er el
  have o2 : Rp C.K (hid L3 H2) w (kD y) := o2
  have ew := rp_key o2
  subst ew
  have og := o1.grow (g2.trans g3) (Keeps.refl L3)
  obtain ⟨a', vs', ea, e1', hr'⟩ := m.ok R3.led og
  cases ea
  have gg := (g1.trans g2).trans g3
  have kk : Keeps L3 L3 := Keeps.refl L3
  rcases rpK_val (k := y) hr' with ⟨c, d', e2, e3, o⟩ | ⟨e2, e3⟩
  · refine ⟨some c, .inl ⟨vs', y, e1', rfl, e2.symm⟩, z c (.dat _) L3 H3 gg kk R3 ?_ q⟩
    rw [e3]
    exact o
  · refine ⟨none, .inl ⟨vs', y, e1', rfl, e2.symm⟩, z u (.dat _) L3 H3 gg kk R3 ?_ q⟩
    rw [e3]
    exact o3
section
variable {κ α : Type} [DecidableEq κ] [KeyY κ] {e : α → PyData}
def getD' (xs : List (κ × α)) (y : κ) (d : α) : α := (getA xs y).getD d
theorem ev_getA {r : Rs} {xs : List (κ × α)} {y : κ} {d : α} (h : EV C td ε L r L) (m : DctAt L r (kvM e xs)) (h2 : EV C ty ε L (.dat (kD (KeyY.kk y))) L) (h3 : EV C tx ε L (.dat (e d)) L) : EV C (tDGet2 td ty tx) ε L (.dat (e (getD' xs y d))) L := by
  have q := ev_dget2 h m h2 h3
  rw [getA_kv] at q
  have : ((getA xs y).map e).getD (e d) = e (getD' xs y d) := by
    unfold getD'
    cases getA xs y <;> rfl
  rwa [this] at q
variable {σ l ρ : Type} {F : Fx ρ} {N : NR σ} {M : NR l} {u : TS}
theorem hv_ownMC {i : Nat} {v : List (κ × α)} {q : List (κ × α) → Ctl σ l ρ} (h : EWM F.C te ε L (kvM e v) L1) (h2 : ∀ p x, p ∉ L1.ks → HV F N M u (ε.set i (some (.own p))) (plusM L1 p (kvM e x)) (q x)) : HV F N M (tSeq (tAsg te (gName i)) u) ε L (lt v q) := fun P A =>
  hs_seq (hs_asg (h _ fun p hp => h2 p v hp P A))
end
/-! displays: pairs one by one; nothing is drawn -/
inductive EPs (C : Cz) (ε : Ev) : List (TE × TE) → List (Key × PyData) → Prop
  | nil : EPs C ε [] []
  | cons {tk tv : TE} {r : List (TE × TE)} {q : Key} {d : PyData} {kvs : List (Key × PyData)} (hk : ∀ L, EV C tk ε L (.dat (kD q)) L) (hv : ∀ L, EV C tv ε L (.dat d) L) (t : EPs C ε r kvs) : EPs C ε ((tk, tv) :: r) ((q, d) :: kvs)
theorem eps_run {trs : List (TE × TE)} {kvs : List (Key × PyData)} (h : EPs C ε trs kvs) : ∀ {L : Led} {σ : _root_.L2.St} {H : Hp} {Q : List (V × V) → Hp → Prop}, Rel C.K L ε σ H → ExOk C L H →
    (∀ ps H', Grow H L H' L → Rel C.K L ε σ H' → RpK C.K (hid L H') ps kvs → Q (ps.map fun kv => (kV kv.1, kv.2)) H') → tPairs trs σ H Q := by
  induction h with
  | nil =>
    intro L σ H Q R X z
    exact z [] H (Grow.refl _ _) R .nil
  | @cons tk tv r q d kvs hk hv t ih =>
    intro L σ H Q R X z
    refine hk L (fun r' L' => r' = .dat (kD q) ∧ L' = L) ⟨rfl, rfl⟩ σ H _ R X fun w r' L1 H1 g1 k1 R1 o1 ⟨er, el⟩ => ?_
    subst er el
    refine hv L1 (fun r' L' => r' = .dat d ∧ L' = L1) ⟨rfl, rfl⟩ σ H1 _ R1 (X.grow g1) fun v r' L2 H2 g2 k2 R2 o2 ⟨er, el⟩ => ?_
    subst er el
    have o1 : Rp C.K (hid L2 H1) w (kD q) := o1
    have ew := rp_key o1
    subst ew
    refine ih R2 ((X.grow g1).grow g2) fun ps H3 g3 R3 rs => ?_
    exact z ((q, v) :: ps) H3 ((g1.trans g2).trans g3) R3 (.cons ⟨rfl, rp_mono g3.ext o2⟩ rs)
def mergeA (kvs more : List (Key × PyData)) : List (Key × PyData) := more.foldl (fun acc kv => putA acc kv.1 kv.2) kvs
theorem rpK_merge {K : PySem.W.Frag} {H : Hp} : ∀ {more : List (Key × V)} {ms : List (Key × PyData)} {vs : List (Key × V)} {kvs : List (Key × PyData)}, RpK K H more ms → RpK K H vs kvs → RpK K H (mergeK vs more) (mergeA kvs ms)
  | _, _, _, _, .nil, h => h
  | p :: more, q :: ms, vs, kvs, .cons h t, hv => by
    show RpK K H (mergeK (putK vs p.1 p.2) more) (mergeA (putA kvs q.1 q.2) ms)
    refine rpK_merge t ?_
    rw [h.1]
    exact rpK_put hv h.2
/-- {k: v, ..} as a dict that is written on -/
theorem ewm_disp {trs : List (TE × TE)} {kvs : List (Key × PyData)} (h : EPs C ε trs kvs) (hz : kvs.length ≤ 15) : EWM C (tDisp trs) ε L (mergeA [] kvs) L := fun k q σ H Q R X z p hp => by
  have g0 : Grow H L (upd H p (.dK [])) (plusM L p []) := grow_own hp
  have R0 := R.grow g0 keeps_own (lok_ownM R.led hp)
  have hpL := R.led.fresh hp
  refine eps_run h R0 (X.grow g0) fun ps H2 g2 R2 rs => ?_
  obtain ⟨vs, e, hr⟩ := isDct R2.led (plusM_mem (L := L) (p := p) (kvs := []))
  cases hr
  refine ⟨e, ps, rfl, by rw [rpK_len rs]; exact hz, ?_⟩
  have ha : p ∈ (plusM L p []).ks := Led.key plusM_mem
  have g3 : Grow H2 (plusM L p []) (upd H2 p (.dK (mergeK [] ps))) (up (plusM L p []) p (.dct (mergeA [] kvs))) := grow_up ha
  have l3 := lok_upM (a := p) (ys := mergeK [] ps) (kvs := mergeA [] kvs) R2.led ha (rpK_merge rs .nil)
  have R3 := R2.grow g3 keeps_up l3
  rw [up_plusM hpL] at g3 R3
  exact z _ (.own p) _ _ ((g0.trans g2).trans g3) keeps_own R3 ⟨rfl, Led.key plusM_mem⟩ (q p hpL)
end
end Y

set_option Elab.async false
set_option linter.all false
set_option maxRecDepth 100000
set_option maxHeartbeats 2000000
/-! max of a dict's keys; a tuple from behind -/
namespace Y
open PySem PySem.Spec PyProof.Rows L2 Z
def rMaxDI : List V → Hp → VK → Prop := fun xs H Q => ∃ (a : Addr) (kvs : List (Key × V)) (ns : List Int), xs = [.ref a] ∧ Rd H a (.dK kvs) ∧ kvs.map (·.1) = ns.map Sum.inl ∧ 0 < ns.length ∧ ∀ m, m ∈ ns → (∀ b ∈ ns, b ≤ m) → Q (.int m) H
theorem cr_maxDI {X : Cx} (hc : X.calm = true) : CallR X (.builtin "max") rMaxDI := by
  intro pins s σ H xs us Q I r q
  obtain ⟨a, kvs, ns, rfl, hd, hks, hne, q⟩ := q
  rw [Vals.ref1 r]
  obtain ⟨z, lo, vs, rel, dd⟩ := dk_rd I.hok hd
  obtain ⟨ep, hat⟩ := dd.dictAt
  have hkeys : vs.map (·.1) = ns.map Sum.inl := rel.keys.symm.trans hks
  have hl : vs.length = ns.length := by
    have e := congrArg List.length hkeys
    rw [List.length_map, List.length_map] at e
    exact e
  have hA : X.A.in1.handled = none := by
    have := I.ok.hd hc
    exact this
  have hlt : a < s.heap.objs.size := by
    obtain ⟨o, _, ho, _⟩ := hat
    exact Heap.lt_size ho
  have val : ∀ (i : Nat) v, (∃ k x, vs[i]? = some (k, x) ∧ (mixKind X.prog X.w).is k v = true) → ∃ t, v = .int (ns.getD i 0) t := by
    rintro i v ⟨k, x, h1, h2⟩
    have e := congrArg (fun l => l[i]?) hkeys
    rw [List.getElem?_map, List.getElem?_map, h1] at e
    cases en : ns[i]? with
    | none =>
      rw [en] at e
      cases e
    | some n =>
      rw [en] at e
      have e2 : k = Sum.inl n := Option.some.inj e
      subst e2
      obtain ⟨t, rfl⟩ := Value.isInt_shape (show Value.isInt n v = true from h2)
      refine ⟨t, ?_⟩
      rw [List.getD_eq_getElem?_getD, en]
      rfl
  refine call_max_walk (wpAny_pyIter_dict (knd := mixKind X.prog X.w) lo hat ?_)
  refine ⟨_, [s.heap.objs.size, a], [s.heap.objs.size], vs.length, _, _, _, rfl, Walks.dictKeys (knd := mixKind X.prog X.w) hA _ a (Nat.ne_of_lt hlt) vs ep, ⟨⟨_, Heap.get?_push_size _ rfl, rfl, rfl⟩, hat.at' fun o e => Heap.get?_push_of_some _ e⟩, fun b hb => ?_, by omega, CmpOf.ints_gt (fun i => ns.getD i 0) val, fun v h' tk hP hk => ?_⟩
  · show b < (s.heap.push _).objs.size
    rw [Heap.size_push]
    rcases List.mem_cons.mp hb with e | e
    · rw [e]
      exact Nat.lt_succ_self _
    · rw [List.mem_singleton.mp e]
      exact Nat.lt_succ_of_lt hlt
  · obtain ⟨t, rfl⟩ := val _ v hP
    obtain ⟨h1, h2⟩ := argBest_gt (fun i => ns.getD i 0) (vs.length - 1)
    generalize argBest (fun i j => decide (ns.getD i 0 > ns.getD j 0)) (vs.length - 1) = j at h1 h2 ⊢
    have hj : j < ns.length := by omega
    refine ⟨.int (ns.getD j 0), H, I.kept (t' := tk) fun b o e => hk b o (fun hb => ?_) (Heap.get?_push_of_some _ e), ⟨t, rfl⟩, q _ ?_ fun b hb => ?_⟩
    · rw [List.mem_singleton.mp hb] at e
      exact Nat.lt_irrefl _ (Heap.lt_size e)
    · rw [List.getD_eq_getElem?_getD, List.getElem?_eq_getElem hj]
      exact List.getElem_mem hj
    · obtain ⟨i, hi, rfl⟩ := List.mem_iff_getElem.mp hb
      have := h2 i (by omega)
      rw [List.getD_eq_getElem?_getD, List.getElem?_eq_getElem hi] at this
      exact this
section
variable {C : Cz} {L : Led} {k : Rs → Led → Prop} {α : Type} {e : α → PyData}
theorem cd_maxDI {r : Rs} {xs : List (Int × α)} (m : DctAt L r (kvM e xs)) (h : 0 < xs.length) (q : k (.dat (.int (maxI (keysA xs)))) L) : CD C rMaxDI [r] L k := cd_val (fun vs H l o => by
  obtain ⟨v, rfl, o1⟩ := rsAll_1 o
  obtain ⟨a, vs, rfl, e1, hr⟩ := m.ok l o1
  refine ⟨.int (maxI (keysA xs)), .int _, fun Q f => ⟨a, vs, keysA xs, rfl, e1, rpK_keys hr, by unfold keysA; rw [List.length_map]; exact h, fun n hn hb => ?_⟩⟩
  have h0 : 0 < (keysA xs).length := by unfold keysA; rw [List.length_map]; exact h
  have : n = maxI (keysA xs) := Int.le_antisymm (maxI_le hn) (hb _ (maxI_mem h0))
  rw [this]
  exact f) q
end
/-! ### xs[::-1] of a tuple -/
section
variable {prog : Program} {w : World} {A : Around} {E : Value → Shared → Prop} {s : Shared}
theorem places_rev (n : Nat) : Builtin.Slice.slicePlaces ((n : Int) - 1) (-1) (-1) = n := by
  unfold Builtin.Slice.slicePlaces
  rw [if_neg (by decide)]
  by_cases h : (n : Int) - 1 > -1
  · rw [if_pos h]
    have : ((n : Int) - 1 - -1 - 1) / (- -1) + 1 = (n : Int) := by
      show ((n : Int) - 1 - -1 - 1) / 1 + 1 = _
      rw [Int.ediv_one]
      omega
    rw [this]
    rfl
  · rw [if_neg h]
    omega
theorem applied_rev {sl : Addr} {vl vu vs : Value} {n : Nat} {Q : Int × Int × Nat → Shared → Prop} (hs : s.heap.IsSliceOf sl vl vu vs) (pl : IsPart vl none) (pu : IsPart vu none) (ps : IsPart vs (some (-1)))
    (h : Q ((n : Int) - 1, -1, n) s) : wpAny (model prog w) A (Builtin.Slice.sliceApplied (.ref sl) (pure (n : Int))) Q E s := by
  obtain ⟨os, hos, hcs, hds⟩ := id hs
  unfold Builtin.Slice.sliceApplied Builtin.Slice.sliceFields
  refine wpAny_bind (wpAny_bind (wpAny_field hos hds (x := vl) rfl (wpAny_bind (wpAny_field hos hds (x := vu) rfl (wpAny_bind (wpAny_field hos hds (x := vs) rfl (wpAny_pure (wpAny_bind (HT.slicePart_ ps ?_)))))))))
  show wpAny _ _ (if ((-1 : Int) == 0) = true then _ else _) _ _ _
  rw [if_neg (by decide)]
  refine wpAny_bind (HT.slicePart_ pl (wpAny_bind (HT.slicePart_ pu (wpAny_bind (wpAny_pure ?_)))))
  show wpAny _ _ (pure ((n : Int) - 1, (-1 : Int), Builtin.Slice.slicePlaces ((n : Int) - 1) (-1) (-1))) _ _ _
  rw [places_rev]
  exact wpAny_pure h
theorem fm_same {α β : Type} {f g : α → Option β} : ∀ {l : List α}, (∀ x ∈ l, f x = g x) → l.filterMap f = l.filterMap g
  | [], _ => rfl
  | a :: r, h => by
    rw [List.filterMap_cons, List.filterMap_cons, h a List.mem_cons_self, fm_same fun x hx => h x (List.mem_cons_of_mem _ hx)]
theorem pick_rev (xs : Array Value) : ((List.range xs.size).filterMap fun (m : Nat) => xs[((xs.size : Int) - 1 + (m : Int) * (-1)).toNat]?) = xs.toList.reverse := by
  rw [← PySem.W.krv_all xs, ← List.filterMap_reverse, ← PySem.W.krv_range, List.filterMap_map]
  refine fm_same fun m hm => ?_
  have := List.mem_range.mp hm
  show xs[((xs.size : Int) - 1 + (m : Int) * (-1)).toNat]? = xs[xs.size - 1 - m]?
  congr 1
  omega
theorem getItem_rev {t sl : Addr} {items : Array Value} {vl vu vs : Value} {Q : Value → Shared → Prop} (ht : IsTup s.heap t items) (hs : s.heap.IsSliceOf sl vl vu vs) (pl : IsPart vl none) (pu : IsPart vu none) (ps : IsPart vs (some (-1)))
    (h : Q (.ref s.heap.objs.size) { s with heap := s.heap.push { cls := .type "tuple", data := .seq items.toList.reverse.toArray } }) (hz : items.size ≤ sizeLine) : wpAny (model prog w) A (getItem (.ref t) (.ref sl)) Q E s := by
  have hk : sizeOk (.seq items.toList.reverse.toArray) := by
    show items.toList.reverse.toArray.size ≤ sizeLine
    rw [List.size_toArray, List.length_reverse, Array.length_toList]
    exact hz
  obtain ⟨os, hos, hcs, hds⟩ := id hs
  have hT : s.TypeIs (.ref sl) "slice" := ⟨os, hos, hcs⟩
  unfold getItem
  try with_reducible refine wpAny_holding ?_
  first
    | refine wpAny_bind (wpAny_pure ?_)
    | skip
  refine wpAny_bind (wpAny_sequenceKey ht.typeIs (by decide) (wpAny_bind (wpAny_callSpecial?_slot (name := Str.ofString "__getitem__") ht.typeIs PyProof.Rows.slot_tuple_getitem
    (wpAny_call_entry PyProof.Rows.slot_tuple_getitem ht.typeIs entry_tuple_getitem ?_ (args_tuple_getitem _ _)))))
  show wpAny _ _ (Builtin.Tuple.tupleItemsOf (.ref t) >>= _) _ _ s
  refine wpAny_bind (tupleItemsOf_ ht (wpAny_bind (wpAny_typeOf hT ?_)))
  rw [if_pos (by decide)]
  refine wpAny_bind (applied_rev hs pl pu ps ?_)
  show wpAny _ _ (if (((items.size : Int) - 1 == 0) && (-1 : Int) == 1 && items.size == items.size) = true then _ else _) _ _ _
  rw [if_neg (by rw [show ((-1 : Int) == 1) = false from rfl, Bool.and_false, Bool.false_and]; exact Bool.false_ne_true), pick_rev]
  first
    | exact wpAny_bind (m := Builtin.Tuple.tupleExact _) (wpAny_newObj_type (wpAny_pure ⟨_, rfl, wpAny_pure h⟩) hk)
    | exact wpAny_bind (m := Builtin.Tuple.tupleExact _) (wpAny_newObj_type (wpAny_bind (wpAny_pure (wpAny_pure ⟨_, rfl, wpAny_pure h⟩))) hk)
    | exact wpAny_bind (wpAny_bind (m := Builtin.Tuple.tupleExact _) (wpAny_newObj_type (wpAny_pure (wpAny_pure ⟨_, rfl, wpAny_pure h⟩)) hk))
    | exact wpAny_bind (wpAny_bind (m := Builtin.Tuple.tupleExact _) (wpAny_newObj_type (wpAny_pure ⟨_, rfl, wpAny_pure h⟩) hk))
end
def tRevT (K : PySem.W.Frag) (te : TE) : TE := fun σ H Q => te σ H fun x H1 => ∃ a xs, x = .ref a ∧ SqT K H1 a xs ∧ ∀ p, H1 p = none → Q (.ref p) (upd H1 p (.tup xs.reverse))
theorem pe_revT {X : Cx} {e : Expr} {te : TE} {k : Nat} {p1 p2 p3 pos : Pos} (he : PE X e te) : PE X (.Subscript e (.Slice none none (some (.UnaryOp .USub (.Constant (.int 1) k p1) p2)) p3) pos) (tRevT X.K te) := by
  refine ⟨fun pins s σ H Q I h => ?_⟩
  refine Subscript_ (thn (he.run pins s σ H _ I h) fun v s1 ⟨x, H1, I1, r1, a, xs, ex, hx, q⟩ => ?_)
  subst ex
  cases r1
  have hst : PO X (some (.UnaryOp .USub (.Constant (.int 1) k p1) p2)) (tPart (tUn (rU fun i => .int (-i)) (tC (.int 1)))) := po_some (pe_un un_neg pe_int)
  refine wpAny_Slice (thn (po_none.run pins s1 σ H1 (fun o H2 => o = none ∧ H2 = H1) I1 ⟨rfl, rfl⟩) fun v1 s2 ⟨l, H2, I2, pl, el, e2⟩ => thn (po_none.run pins s2 σ H2 (fun o H3 => o = none ∧ H3 = H2) I2 ⟨rfl, rfl⟩) fun v2 s3 ⟨u, H3, I3, pu, eu, e3⟩ =>
    thn (hst.run pins s3 σ H3 (fun o H4 => o = some (-1) ∧ H4 = H3) I3 ⟨1, rfl, -1, rfl, rfl, rfl⟩) fun v3 s4 ⟨o, H4, I4, ps, eo, e4⟩ => ?_)
  subst el e2 eu e3 eo e4
  have I5 : Inv X pins σ H4 { s4 with heap := s4.heap.push { cls := .type "slice", data := .fields #[v1, v2, v3] } } := I4.kept (t' := s4.toks) fun b ob q => Heap.get?_push_of_some _ q
  obtain ⟨its, r, ht, hz⟩ := I5.tuple hx
  have hlen := r.length
  refine tail_any (ops := [.ref a, .ref s4.heap.objs.size]) ht.typeIs (PyProof.Rows.slot_tuple_getitem.lookup) ?_ (by with_unfolding_all rfl)
  refine getItem_rev ht (Heap.IsSliceOf.new _ v1 v2 v3) pl pu ps ?_ (by rw [List.size_toArray]; omega)
  refine ⟨.ref _, _, I5.laid (t' := s4.toks) (o := .tup xs.reverse) (fun b ob q => Heap.get?_push_of_some _ q) (Nat.le_refl _) ?_, rfl, q _ (I5.hok.fresh (Nat.le_refl _))⟩
  exact ⟨by rw [List.length_reverse]; exact hz, _, r.reverse, IsTup.new _ _⟩
section
variable {C : Cz} {ε : Ev} {L L1 : Led} {K : PySem.W.Frag} {te : TE} {α : Type} {e : α → PyData}
theorem ev_revT {xs : List α} (h : EV C te ε L (.dat (eT e xs)) L1) (hK : C.K = K := by rfl) : EV C (tRevT K te) ε L (.dat (eT e xs.reverse)) L1 := fun k q σ H Q R X z => by
  subst hK
  refine h (fun r L' => r = .dat (eT e xs) ∧ L' = L1) ⟨rfl, rfl⟩ σ H _ R X fun v r L2 H1 g1 k1 R1 o1 ⟨er, el⟩ => ?_
  subst er el
  have o1 : Rp C.K (hid L2 H1) v (.tuple (xs.map e)) := o1
  cases o1 with
  | @tup a ys _ e1 ha =>
    refine ⟨a, ys, rfl, ext_t hid_sub e1, fun p hp => ?_⟩
    have g2 : Grow H1 L2 (upd H1 p (.tup ys.reverse)) L2 := grow_new hp
    have hr := rpAll_rev ha
    rw [← List.map_reverse] at hr
    exact z _ (.dat (eT e xs.reverse)) L2 _ (g1.trans g2) k1 (R1.grow g2 (Keeps.refl _) (R1.led.new hp)) (.tup (SqT.of (by rw [hid_out (R1.led.fresh hp)]; exact upd_same)) (rpAll_mono g2.ext hr)) q
theorem ev_revL {xs : List α} (h : EV C te ε L (.dat (eL e xs)) L1) (hK : C.K = K := by rfl) : EV C (tRevL K te) ε L (.dat (eL e xs.reverse)) L1 := fun k q σ H Q R X z => by
  subst hK
  refine h (fun r L' => r = .dat (eL e xs) ∧ L' = L1) ⟨rfl, rfl⟩ σ H _ R X fun v r L2 H1 g1 k1 R1 o1 ⟨er, el⟩ => ?_
  subst er el
  have o1 : Rp C.K (hid L2 H1) v (.list (xs.map e)) := o1
  cases o1 with
  | @lst a ys _ e1 ha =>
    refine ⟨a, ys, rfl, SqL.of (hid_sub _ _ e1), fun p hp => ?_⟩
    have g2 : Grow H1 L2 (upd H1 p (.lst ys.reverse)) L2 := grow_new hp
    have hr := rpAll_rev ha
    rw [← List.map_reverse] at hr
    exact z _ (.dat (eL e xs.reverse)) L2 _ (g1.trans g2) k1 (R1.grow g2 (Keeps.refl _) (R1.led.new hp)) (.lst (by rw [hid_out (R1.led.fresh hp)]; exact upd_same) (rpAll_mono g2.ext hr)) q
end
section
variable {C : Cz} {ε : Ev} {L L1 : Led} {te : TE}
theorem ev_takeU {i : Nat} {ds : List Nat} {p : Addr} {b : Int} {L2 : Led} (hx : ε[i]? = some (some (.own p))) (h : EV C te ε L (.dat (.int b)) L1) (hm : (p, .lst (ds.map natD)) ∈ L1) (hb : 0 < b) (hL : up L1 p (.lst ((tkD ds).map natD)) = L2) :
    EV C (tCall (lift C.K d_take) [] E0 (tCons (tVar i) (tCons te tNil))) ε L (.dat (.int (tkV ds b))) L2 := ev_call (ea_cons (ev_var hx) (ea_cons h ea_nil)) fun k q => ⟨ds, p, b, rfl, hm, hb, by rw [hL]; exact q⟩
theorem ev_keyI {i : Int} (h : EV C te ε L (.dat (eI i)) L1) : EV C te ε L (.dat (kD (KeyY.kk i))) L1 := h
theorem ev_keyS {i : Str} (h : EV C te ε L (.dat (eS i)) L1) : EV C te ε L (.dat (kD (KeyY.kk i))) L1 := h
end
section
variable {σ l ρ α : Type} {F : Fx ρ} {N : NR σ} {M : NR l} {ε : Ev} {L : Led} {tA : TA}
theorem hv_retCD {d : DSp} {rs : List Rs} {r : Res α} {enc : α → PyData} {g : α → ρ} (h : EA F.C tA ε L rs L) (hd : ∀ (k : Rs → Led → Prop) (x : Addr → Led → Prop), AccR F.ca r (fun v => k (.dat (enc v)) L) (fun c => x c L) → d rs L k x) (hX : F.X ε L) (hr : ∀ v, F.R (g v) (.dat (enc v)) L) :
    HV F N M (tRet (tCallS (lift F.C.K d) (WE F.C.W) tA)) ε L (callC r fun v => .rt (g v)) := fun P A => hs_ret (cp_callS (h _ (hd _ _ (by
  cases r with
  | bad => exact A.elim
  | ok v => exact A _ L (hr v)
  | ex c => exact A ε L hX))))
end
end Y

set_option Elab.async false
set_option linter.all false
set_option maxRecDepth 100000
set_option maxHeartbeats 4000000
namespace W02
open PySem PySem.Spec PyProof.Rows L2 Z Y
noncomputable def m_is_within (v_value : PyData) (v_low : Int) (v_high : Int) : Res Bool :=
  run ((grd (((isD v_value "int") = true → ((!(isD v_value "bool")) = true → tyI.p v_value = true))) (.rt ((isD v_value "int") && ((!(isD v_value "bool")) && ((decide (v_low ≤ (tyI.f v_value))) && (decide ((tyI.f v_value) ≤ v_high))))))) : Ctl Unit Unit Bool)
@[reducible] def d_is_within (ca : Nat → Addr) : DSp := fun rs L k x => ∃ (v_value : PyData) (v_low : Int) (v_high : Int), rs = [.dat (eD v_value), .dat (eI v_low), .dat (eI v_high)] ∧ AccR ca (m_is_within v_value v_low v_high) (fun r => k (.dat (eB r)) L) fun _ => False
noncomputable def m_are_ascending (v_values : (List Int)) : Res Bool :=
  run ((grd ((v_values.zip (Z.cutD v_values (some (1 : Int)) none)).length < sizeLine) (.rt ((v_values.zip (Z.cutD v_values (some (1 : Int)) none)).all (fun x1 : (Int × Int) => (decide (x1.1 < x1.2)))))) : Ctl Unit Unit Bool)
@[reducible] def d_are_ascending (ca : Nat → Addr) : DSp := fun rs L k x => ∃ (v_values : (List Int)), rs = [.dat ((eT eI) v_values)] ∧ AccR ca (m_are_ascending v_values) (fun r => k (.dat (eB r)) L) fun _ => False
noncomputable def m_are_lengths (v_value : PyData) : Res Bool :=
  run ((grd (((!(isD v_value "tuple")) = false → hasLen v_value = true)) (bif ((!(isD v_value "tuple")) || (decide ((300 : Int) < (lenD v_value)))) then (.rt false) else (grd (isSeqD v_value = true ∧ (∀ x4 ∈ (itemsD v_value), (m_is_within x4 (1 : Int) (1000 : Int)).isOk = true) ∧ (itemsD v_value).length < sizeLine) (.rt ((itemsD v_value).all (fun x4 : PyData => (m_is_within x4 (1 : Int) (1000 : Int)).get)))))) : Ctl Unit Unit Bool)
@[reducible] def d_are_lengths (ca : Nat → Addr) : DSp := fun rs L k x => ∃ (v_value : PyData), rs = [.dat (eD v_value)] ∧ AccR ca (m_are_lengths v_value) (fun r => k (.dat (eB r)) L) fun _ => False
noncomputable def m_check_both (v_lengths : PyData) (v_siding : PyData) : Res Unit :=
  runN ((grd ((m_are_lengths v_lengths).isOk = true ∧ ((!(m_are_lengths v_lengths).get) = false → hasLen v_lengths = true)) (bif ((!(m_are_lengths v_lengths).get) || (decide ((60 : Int) < (lenD v_lengths)))) then (.ex 0) else (grd ((m_is_within v_siding (0 : Int) (20000 : Int)).isOk = true) (bif (!(m_is_within v_siding (0 : Int) (20000 : Int)).get) then (.ex 0) else (.nx ()))))) : Ctl Unit Unit Unit)
@[reducible] def d_check_both (ca : Nat → Addr) : DSp := fun rs L k x => ∃ (v_lengths : PyData) (v_siding : PyData), rs = [.dat (eD v_lengths), .dat (eD v_siding)] ∧ AccR ca (m_check_both v_lengths v_siding) (fun r => k (.dat (eN r)) L) fun c => x c L
noncomputable def m_counts_by (v_lengths : (List Int)) (v_siding : Int) : Res (List (Int × Int)) :=
  run ((lt ([((0 : Int), (1 : Int))].foldl (fun a (p : Int × Int) => putA a p.1 p.2) ([] : (List (Int × Int)))) fun v_found : (List (Int × Int)) => (Ctl.bind (forC v_lengths (v_found : (List (Int × Int))) (fun (x9 : Int) (s : (List (Int × Int))) => match s with | v_found => (lt v_found fun v_more : (List (Int × Int)) => (Ctl.bind (noEx (forC v_found (v_more : (List (Int × Int))) (fun (x11 : (Int × Int)) (s : (List (Int × Int))) => match s with | v_more => (bif (decide ((x11.1 + x9) ≤ v_siding)) then (grd (v_more.length < sizeLine) (lt (putA v_more (x11.1 + x9) ((getD' v_more (x11.1 + x9) (0 : Int)) + x11.2)) fun v_more : (List (Int × Int)) => (.nx v_more))) else (.nx v_more)))) : Ctl ((List (Int × Int))) _ _) fun v_more => (lt v_more fun v_found : (List (Int × Int)) => (.nx v_found))))) : Ctl ((List (Int × Int))) _ _) fun v_found => (.rt v_found))) : Ctl Unit Unit (List (Int × Int)))
@[reducible] def d_counts_by (ca : Nat → Addr) : DSp := fun rs L k x => ∃ (v_lengths : (List Int)) (v_siding : Int), rs = [.dat ((eT eI) v_lengths), .dat (eI v_siding)] ∧ AccR ca (m_counts_by v_lengths v_siding) (fun r => k (.dat ((eM (κ := Int) eI) r)) L) fun _ => False
noncomputable def m_marks_by (v_lengths : (List Int)) (v_siding : Int) : Res (List Int) :=
  run ((grd (CShl (1 : Int) (v_siding + (1 : Int))) (lt (((1 : Int) * 2 ^ ((v_siding + (1 : Int))).toNat) - (1 : Int)) fun v_room : Int => (lt ([(1 : Int)] : List Int) fun v_found : List Int => (Ctl.bind (forC v_lengths (v_found : (List Int)) (fun (x1 : Int) (s : (List Int)) => match s with | v_found => (grd (okIx v_found (-1 : Int) ∧ CShl (ix v_found (-1 : Int)) x1 ∧ v_found.length < sizeLine) (lt (v_found ++ [(Builtin.bitAnd (Builtin.bitOr (ix v_found (-1 : Int)) ((ix v_found (-1 : Int)) * 2 ^ (x1).toNat)) v_room)]) fun v_found : List Int => (.nx v_found)))) : Ctl ((List Int)) _ _) fun v_found => (.rt v_found))))) : Ctl Unit Unit (List Int))
@[reducible] def d_marks_by (ca : Nat → Addr) : DSp := fun rs L k x => ∃ (v_lengths : (List Int)) (v_siding : Int), rs = [.dat ((eT eI) v_lengths), .dat (eI v_siding)] ∧ AccR ca (m_marks_by v_lengths v_siding) (fun r => k (.dat ((eL eI) r)) L) fun _ => False
noncomputable def m_has_sum (v_marks : Int) (v_whole : Int) : Res Bool :=
  run ((grd (((decide ((0 : Int) ≤ v_whole)) = true → 0 ≤ v_whole)) (.rt ((decide ((0 : Int) ≤ v_whole)) && (((Builtin.bitAnd (v_marks / 2 ^ (v_whole).toNat) (1 : Int)) == (1 : Int)))))) : Ctl Unit Unit Bool)
@[reducible] def d_has_sum (ca : Nat → Addr) : DSp := fun rs L k x => ∃ (v_marks : Int) (v_whole : Int), rs = [.dat (eI v_marks), .dat (eI v_whole)] ∧ AccR ca (m_has_sum v_marks v_whole) (fun r => k (.dat (eB r)) L) fun _ => False
noncomputable def m_sums_in (v_marks : Int) (v_siding : Int) : Res (List Int) :=
  run ((grd (bnd (v_siding + (1 : Int)) ∧ (∀ x1 ∈ (rngI 0 (v_siding + (1 : Int))), (m_has_sum v_marks x1).isOk = true) ∧ (rngI 0 (v_siding + (1 : Int))).length < sizeLine) (.rt (((rngI 0 (v_siding + (1 : Int))).filter fun x1 : Int => (m_has_sum v_marks x1).get).map fun x1 : Int => x1))) : Ctl Unit Unit (List Int))
@[reducible] def d_sums_in (ca : Nat → Addr) : DSp := fun rs L k x => ∃ (v_marks : Int) (v_siding : Int), rs = [.dat (eI v_marks), .dat (eI v_siding)] ∧ AccR ca (m_sums_in v_marks v_siding) (fun r => k (.dat ((eL eI) r)) L) fun _ => False
noncomputable def m_sums_up_to (v_lengths : PyData) (v_siding : Int) : Res (List Int) :=
  run ((callC (m_check_both v_lengths (eI v_siding)) fun _ => (grd ((tyT tyI).p v_lengths = true) (lt ((tyT tyI).f v_lengths) fun v_lengths : (List Int) => (grd ((m_marks_by v_lengths v_siding).isOk = true ∧ okIx (m_marks_by v_lengths v_siding).get (-1 : Int) ∧ (m_sums_in (ix (m_marks_by v_lengths v_siding).get (-1 : Int)) v_siding).isOk = true) (.rt (m_sums_in (ix (m_marks_by v_lengths v_siding).get (-1 : Int)) v_siding).get))))) : Ctl Unit Unit (List Int))
@[reducible] def d_sums_up_to (ca : Nat → Addr) : DSp := fun rs L k x => ∃ (v_lengths : PyData) (v_siding : Int), rs = [.dat (eD v_lengths), .dat (eI v_siding)] ∧ AccR ca (m_sums_up_to v_lengths v_siding) (fun r => k (.dat ((eL eI) r)) L) fun c => x c L
noncomputable def m_best_by (v_lengths : (List Int)) (v_siding : Int) : Res Int :=
  run ((grd ((m_marks_by v_lengths v_siding).isOk = true ∧ okIx (m_marks_by v_lengths v_siding).get (-1 : Int) ∧ (m_sums_in (ix (m_marks_by v_lengths v_siding).get (-1 : Int)) v_siding).isOk = true ∧ okIx (m_sums_in (ix (m_marks_by v_lengths v_siding).get (-1 : Int)) v_siding).get (-1 : Int)) (.rt (ix (m_sums_in (ix (m_marks_by v_lengths v_siding).get (-1 : Int)) v_siding).get (-1 : Int)))) : Ctl Unit Unit Int)
@[reducible] def d_best_by (ca : Nat → Addr) : DSp := fun rs L k x => ∃ (v_lengths : (List Int)) (v_siding : Int), rs = [.dat ((eT eI) v_lengths), .dat (eI v_siding)] ∧ AccR ca (m_best_by v_lengths v_siding) (fun r => k (.dat (eI r)) L) fun _ => False
noncomputable def m_fullest_length (v_lengths : PyData) (v_siding : Int) : Res Int :=
  run ((callC (m_check_both v_lengths (eI v_siding)) fun _ => (grd ((tyT tyI).p v_lengths = true) (lt ((tyT tyI).f v_lengths) fun v_lengths : (List Int) => (grd ((m_best_by v_lengths v_siding).isOk = true) (.rt (m_best_by v_lengths v_siding).get))))) : Ctl Unit Unit Int)
@[reducible] def d_fullest_length (ca : Nat → Addr) : DSp := fun rs L k x => ∃ (v_lengths : PyData) (v_siding : Int), rs = [.dat (eD v_lengths), .dat (eI v_siding)] ∧ AccR ca (m_fullest_length v_lengths v_siding) (fun r => k (.dat (eI r)) L) fun c => x c L
noncomputable def m_count_fullest (v_lengths : PyData) (v_siding : Int) : Res Int :=
  run ((callC (m_check_both v_lengths (eI v_siding)) fun _ => (grd ((tyT tyI).p v_lengths = true) (lt ((tyT tyI).f v_lengths) fun v_lengths : (List Int) => (grd ((m_counts_by v_lengths v_siding).isOk = true) (lt (m_counts_by v_lengths v_siding).get fun v_counts : (List (Int × Int)) => (grd (0 < v_counts.length ∧ hasA v_counts (maxI (keysA v_counts)) = true) (.rt (atA v_counts (maxI (keysA v_counts)))))))))) : Ctl Unit Unit Int)
@[reducible] def d_count_fullest (ca : Nat → Addr) : DSp := fun rs L k x => ∃ (v_lengths : PyData) (v_siding : Int), rs = [.dat (eD v_lengths), .dat (eI v_siding)] ∧ AccR ca (m_count_fullest v_lengths v_siding) (fun r => k (.dat (eI r)) L) fun c => x c L
noncomputable def m_fullest (v_lengths : PyData) (v_siding : Int) : Res (List Int) :=
  run ((callC (m_check_both v_lengths (eI v_siding)) fun _ => (grd ((tyT tyI).p v_lengths = true) (lt ((tyT tyI).f v_lengths) fun v_lengths : (List Int) => (grd ((m_marks_by v_lengths v_siding).isOk = true) (lt (m_marks_by v_lengths v_siding).get fun v_tables : (List Int) => (grd ((m_best_by v_lengths v_siding).isOk = true) (lt (m_best_by v_lengths v_siding).get fun v_left : Int => (lt ([] : List Int) fun v_found : List Int => (grd (bnd ((v_lengths.length : Int) - (1 : Int)) ∧ bnd (-1 : Int)) (Ctl.bind (forC (rngD ((v_lengths.length : Int) - (1 : Int)) (-1 : Int)) ((v_left, v_found) : Int × (List Int)) (fun (x1 : Int) (s : Int × (List Int)) => match s with | (v_left, v_found) => (grd (okIx v_tables x1 ∧ (m_has_sum (ix v_tables x1) v_left).isOk = true) (bif (!(m_has_sum (ix v_tables x1) v_left).get) then (grd (v_found.length < sizeLine) (lt (v_found ++ [x1]) fun v_found : List Int => (grd (okIx v_lengths x1) (lt (v_left - (ix v_lengths x1)) fun v_left => (.nx (v_left, v_found)))))) else (.nx (v_left, v_found))))) : Ctl (Int × (List Int)) _ _) fun (v_left, v_found) => (lt v_found.reverse fun v_found : List Int => (.rt v_found)))))))))))) : Ctl Unit Unit (List Int))
@[reducible] def d_fullest (ca : Nat → Addr) : DSp := fun rs L k x => ∃ (v_lengths : PyData) (v_siding : Int), rs = [.dat (eD v_lengths), .dat (eI v_siding)] ∧ AccR ca (m_fullest v_lengths v_siding) (fun r => k (.dat ((eT eI) r)) L) fun c => x c L
noncomputable def m_have_sum (v_ahead : Int) (v_behind : Int) (v_whole : Int) : Res Bool :=
  run ((grd (bnd (v_whole + (1 : Int)) ∧ (∀ x1 ∈ (rngI 0 (v_whole + (1 : Int))), (m_has_sum v_ahead x1).isOk = true ∧ ((m_has_sum v_ahead x1).get = true → (m_has_sum v_behind (v_whole - x1)).isOk = true)) ∧ (rngI 0 (v_whole + (1 : Int))).length < sizeLine) (.rt ((rngI 0 (v_whole + (1 : Int))).any (fun x1 : Int => ((m_has_sum v_ahead x1).get && (m_has_sum v_behind (v_whole - x1)).get))))) : Ctl Unit Unit Bool)
@[reducible] def d_have_sum (ca : Nat → Addr) : DSp := fun rs L k x => ∃ (v_ahead : Int) (v_behind : Int) (v_whole : Int), rs = [.dat (eI v_ahead), .dat (eI v_behind), .dat (eI v_whole)] ∧ AccR ca (m_have_sum v_ahead v_behind v_whole) (fun r => k (.dat (eB r)) L) fun _ => False
noncomputable def m_words_for (v_lengths : PyData) (v_siding : Int) : Res (List Str) :=
  run ((callC (m_check_both v_lengths (eI v_siding)) fun _ => (grd ((tyT tyI).p v_lengths = true) (lt ((tyT tyI).f v_lengths) fun v_lengths : (List Int) => (grd ((m_best_by v_lengths v_siding).isOk = true) (lt (m_best_by v_lengths v_siding).get fun v_best : Int => (grd ((m_marks_by v_lengths v_best).isOk = true) (lt (m_marks_by v_lengths v_best).get fun v_ahead : (List Int) => (grd ((m_marks_by v_lengths.reverse v_best).isOk = true) (lt (m_marks_by v_lengths.reverse v_best).get.reverse fun v_behind : (List Int) => (lt ([] : List Str) fun v_found : List Str => (Ctl.bind (forC (enumI v_lengths) (v_found : (List Str)) (fun (x1 : (Int × Int)) (s : (List Str)) => match s with | v_found => (grd (okIx v_ahead x1.1 ∧ okIx v_behind (x1.1 + (1 : Int)) ∧ (m_have_sum (ix v_ahead x1.1) (ix v_behind (x1.1 + (1 : Int))) (v_best - x1.2)).isOk = true) (lt (m_have_sum (ix v_ahead x1.1) (ix v_behind (x1.1 + (1 : Int))) (v_best - x1.2)).get fun v_can_be_in : Bool => (grd (okIx v_ahead x1.1 ∧ okIx v_behind (x1.1 + (1 : Int)) ∧ (m_have_sum (ix v_ahead x1.1) (ix v_behind (x1.1 + (1 : Int))) v_best).isOk = true) (lt (m_have_sum (ix v_ahead x1.1) (ix v_behind (x1.1 + (1 : Int))) v_best).get fun v_can_be_out : Bool => (bif (v_can_be_in && v_can_be_out) then (grd (v_found.length < sizeLine) (lt (v_found ++ [("free" : Str)]) fun v_found : List Str => (.nx v_found))) else (grd (v_found.length < sizeLine) (lt (v_found ++ [(bif v_can_be_in then ("sure" : Str) else ("out" : Str))]) fun v_found : List Str => (.nx v_found))))))))) : Ctl ((List Str)) _ _) fun v_found => (.rt v_found)))))))))))) : Ctl Unit Unit (List Str))
@[reducible] def d_words_for (ca : Nat → Addr) : DSp := fun rs L k x => ∃ (v_lengths : PyData) (v_siding : Int), rs = [.dat (eD v_lengths), .dat (eI v_siding)] ∧ AccR ca (m_words_for v_lengths v_siding) (fun r => k (.dat ((eL eS) r)) L) fun c => x c L
noncomputable def m_is_fullest (v_lengths : PyData) (v_siding : Int) (v_choice : (List Int)) : Res Bool :=
  run ((callC (m_check_both v_lengths (eI v_siding)) fun _ => (grd ((tyT tyI).p v_lengths = true) (lt ((tyT tyI).f v_lengths) fun v_lengths : (List Int) => (grd ((m_are_ascending v_choice).isOk = true ∧ ((!(m_are_ascending v_choice).get) = false → (∀ x1 ∈ v_choice, (m_is_within (eI x1) (0 : Int) ((v_lengths.length : Int) - (1 : Int))).isOk = true) ∧ v_choice.length < sizeLine)) (bif ((!(m_are_ascending v_choice).get) || (!(v_choice.all (fun x1 : Int => (m_is_within (eI x1) (0 : Int) ((v_lengths.length : Int) - (1 : Int))).get)))) then (.rt false) else (grd ((∀ x9 ∈ v_choice, okIx v_lengths x9) ∧ v_choice.length < sizeLine ∧ (m_best_by v_lengths v_siding).isOk = true) (.rt (((v_choice.map fun x9 : Int => (ix v_lengths x9)).sum == (m_best_by v_lengths v_siding).get))))))))) : Ctl Unit Unit Bool)
@[reducible] def d_is_fullest (ca : Nat → Addr) : DSp := fun rs L k x => ∃ (v_lengths : PyData) (v_siding : Int) (v_choice : (List Int)), rs = [.dat (eD v_lengths), .dat (eI v_siding), .dat ((eT eI) v_choice)] ∧ AccR ca (m_is_fullest v_lengths v_siding v_choice) (fun r => k (.dat (eB r)) L) fun c => x c L
noncomputable def m__law_choices (v_n : Int) : Res (List (List Int)) :=
  run ((lt ([([] : (List Int))] : List (List Int)) fun v_found : (List (List Int)) => (grd (bnd v_n) (Ctl.bind (forC (rngI 0 v_n) (v_found : (List (List Int))) (fun (x1 : Int) (s : (List (List Int))) => match s with | v_found => (grd ((∀ x3 ∈ v_found, x3.length + ([x1] : List Int).length ≤ sizeLine) ∧ v_found.length < sizeLine ∧ v_found.length + (v_found.map fun x3 : (List Int) => (x3 ++ ([x1] : List Int))).length ≤ sizeLine) (lt (v_found ++ (v_found.map fun x3 : (List Int) => (x3 ++ ([x1] : List Int)))) fun v_found : (List (List Int)) => (.nx v_found)))) : Ctl ((List (List Int))) _ _) fun v_found => (.rt v_found)))) : Ctl Unit Unit (List (List Int)))
@[reducible] def d__law_choices (ca : Nat → Addr) : DSp := fun rs L k x => ∃ (v_n : Int), rs = [.dat (eI v_n)] ∧ AccR ca (m__law_choices v_n) (fun r => k (.dat ((eL (eT eI)) r)) L) fun _ => False
noncomputable def m__law_told (v_which : Int) (v_lengths : PyData) (v_siding : Int) : Res PyData :=
  run ((tryB [0] (bif v_which == 0 then (callC (m_sums_up_to v_lengths v_siding) fun r => .rt ((eL eI) r)) else (bif v_which == 1 then (callC (m_fullest v_lengths v_siding) fun r => .rt ((eT eI) r)) else (bif v_which == 2 then (callC (m_fullest_length v_lengths v_siding) fun r => .rt (eI r)) else (bif v_which == 3 then (callC (m_count_fullest v_lengths v_siding) fun r => .rt (eI r)) else (bif v_which == 4 then (callC (m_words_for v_lengths v_siding) fun r => .rt ((eL eS) r)) else .bad))))) fun cc => (.rt ((eL eB) (flV cc)))) : Ctl Unit Unit PyData)
@[reducible] def d__law_told (ca : Nat → Addr) : DSp := fun rs L k x => ∃ (v_which : Int) (v_lengths : PyData) (v_siding : Int), rs = [.dat (eI v_which), .dat (eD v_lengths), .dat (eI v_siding)] ∧ AccR ca (m__law_told v_which v_lengths v_siding) (fun r => k (.dat (eD r)) L) fun _ => False
noncomputable def m__law_is (v_lengths : PyData) (v_siding : Int) (v_choice : (List Int)) : Res PyData :=
  run ((tryB [0] (callC (m_is_fullest v_lengths v_siding v_choice) fun r => .rt (eB r)) fun cc => (.rt ((eL eB) (flV cc)))) : Ctl Unit Unit PyData)
@[reducible] def d__law_is (ca : Nat → Addr) : DSp := fun rs L k x => ∃ (v_lengths : PyData) (v_siding : Int) (v_choice : (List Int)), rs = [.dat (eD v_lengths), .dat (eI v_siding), .dat ((eT eI) v_choice)] ∧ AccR ca (m__law_is v_lengths v_siding v_choice) (fun r => k (.dat (eD r)) L) fun _ => False
noncomputable def m_law (v_draws : List Nat) : Res Bool :=
  run ((lt ([true, false, false, false, false] : List Bool) fun v_refused : (List Bool) => (grd (([(0 : Int), (1 : Int), (2 : Int), (4 : Int), (6 : Int), (7 : Int), (9 : Int)] : List Int) ≠ []) (lt (pkV v_draws ([(0 : Int), (1 : Int), (2 : Int), (4 : Int), (6 : Int), (7 : Int), (9 : Int)] : List Int)) fun v_n : Int => (lt (tkD v_draws) fun v_draws : List Nat => (lt ([((1 : Int) + (tkV v_draws (9 : Int))), ((1 : Int) + (tkV (tkD v_draws) (9 : Int))), (1000 : Int), ((1 : Int) + (tkV (tkD (tkD v_draws)) (30 : Int)))] : List Int) fun v_some : (List Int) => (lt (tkD (tkD (tkD v_draws))) fun v_draws : List Nat => (grd (bnd v_n ∧ (∀ x1 ∈ (rngI 0 v_n), ∀ d6 : List Nat, v_some ≠ []) ∧ (rngI 0 v_n).length < sizeLine) (lt (mapS (fun (x1 : Int) (d6 : List Nat) => ((pkV d6 v_some), (tkD d6))) (rngI 0 v_n) v_draws).1 fun v_lengths : (List Int) => (lt (mapS (fun (x1 : Int) (d6 : List Nat) => ((pkV d6 v_some), (tkD d6))) (rngI 0 v_n) v_draws).2 fun v_draws : List Nat => (grd ((m__law_choices v_n).isOk = true) (lt (m__law_choices v_n).get fun v_every : (List (List Int)) => (grd ((∀ x7 ∈ v_every, (∀ x12 ∈ x7, okIx v_lengths x12) ∧ x7.length < sizeLine) ∧ v_every.length < sizeLine) (lt (v_every.map fun x7 : (List Int) => (x7.map fun x12 : Int => (ix v_lengths x12)).sum) fun v_sizes : (List Int) => (grd (bnd (5 : Int)) (Ctl.bind (forC (rngI 0 (5 : Int)) (v_draws : (List Nat)) (fun (x17 : Int) (s : (List Nat)) => match s with | v_draws => (grd (v_sizes.length + ([(0 : Int), v_lengths.sum, (20000 : Int)] : List Int).length ≤ sizeLine ∧ (v_sizes ++ ([(0 : Int), v_lengths.sum, (20000 : Int)] : List Int)) ≠ [] ∧ ([(0 : Int), (0 : Int), (1 : Int), (-1 : Int)] : List Int) ≠ []) (lt (if (if ((pkV v_draws (v_sizes ++ ([(0 : Int), v_lengths.sum, (20000 : Int)] : List Int))) + (pkV (tkD v_draws) ([(0 : Int), (0 : Int), (1 : Int), (-1 : Int)] : List Int))) < (20000 : Int) then ((pkV v_draws (v_sizes ++ ([(0 : Int), v_lengths.sum, (20000 : Int)] : List Int))) + (pkV (tkD v_draws) ([(0 : Int), (0 : Int), (1 : Int), (-1 : Int)] : List Int))) else (20000 : Int)) > (0 : Int) then (if ((pkV v_draws (v_sizes ++ ([(0 : Int), v_lengths.sum, (20000 : Int)] : List Int))) + (pkV (tkD v_draws) ([(0 : Int), (0 : Int), (1 : Int), (-1 : Int)] : List Int))) < (20000 : Int) then ((pkV v_draws (v_sizes ++ ([(0 : Int), v_lengths.sum, (20000 : Int)] : List Int))) + (pkV (tkD v_draws) ([(0 : Int), (0 : Int), (1 : Int), (-1 : Int)] : List Int))) else (20000 : Int)) else (0 : Int)) fun v_siding : Int => (lt (tkD (tkD v_draws)) fun v_draws : List Nat => (grd (bnd (v_every.length : Int) ∧ (∀ x19 ∈ (rngI 0 (v_every.length : Int)), okIx v_sizes x19) ∧ (rngI 0 (v_every.length : Int)).length < sizeLine) (lt (((rngI 0 (v_every.length : Int)).filter fun x19 : Int => (decide ((ix v_sizes x19) ≤ v_siding))).map fun x19 : Int => x19) fun v_fits : (List Int) => (grd ((∀ x25 ∈ v_fits, okIx v_sizes x25) ∧ v_fits.length < sizeLine ∧ 0 < (v_fits.map fun x25 : Int => (ix v_sizes x25)).length) (lt (maxI (v_fits.map fun x25 : Int => (ix v_sizes x25))) fun v_most : Int => (grd ((∀ x30 ∈ v_fits, okIx v_sizes x30 ∧ ((((ix v_sizes x30) == v_most)) = true → okIx v_every x30)) ∧ v_fits.length < sizeLine) (lt ((v_fits.filter fun x30 : Int => (((ix v_sizes x30) == v_most))).map fun x30 : Int => (ix v_every x30)) fun v_best : (List (List Int)) => (lt ([] : List Str) fun v_words : List Str => (grd (bnd v_n) (Ctl.bind (forC (rngI 0 v_n) (v_words : (List Str)) (fun (x36 : Int) (s : (List Str)) => match s with | v_words => (grd (v_best.length < sizeLine) (lt (((v_best.filter fun x38 : (List Int) => (decide (x36 ∈ x38))).map fun x38 : (List Int) => x38).length : Int) fun v_count : Int => (grd (okIx ([("free" : Str), ("out" : Str)] : List Str) (if ((v_count == (0 : Int))) = true then 1 else 0) ∧ okIx ([(ix ([("free" : Str), ("out" : Str)] : List Str) (if ((v_count == (0 : Int))) = true then 1 else 0)), ("sure" : Str)] : List Str) (if ((v_count == (v_best.length : Int))) = true then 1 else 0) ∧ v_words.length < sizeLine) (lt (v_words ++ [(ix ([(ix ([("free" : Str), ("out" : Str)] : List Str) (if ((v_count == (0 : Int))) = true then 1 else 0)), ("sure" : Str)] : List Str) (if ((v_count == (v_best.length : Int))) = true then 1 else 0))]) fun v_words : List Str => (.nx v_words)))))) : Ctl ((List Str)) _ _) fun v_words => (grd ((m__law_told (1 : Int) ((eT eI) v_lengths) v_siding).isOk = true) (lt (m__law_told (1 : Int) ((eT eI) v_lengths) v_siding).get fun v_told : PyData => (grd ((∀ x85 ∈ v_fits, okIx v_sizes x85) ∧ v_fits.length < sizeLine ∧ (v_fits.map fun x85 : Int => (ix v_sizes x85)).length + 1 < scanBound) (lt ([((eL eI) (usort (v_fits.map fun x85 : Int => (ix v_sizes x85)))), (eI v_most), (eI (v_best.length : Int)), ((eL eS) v_words)] : List PyData) fun v_due : (List PyData) => (grd ((∀ x90 ∈ ([(0 : Int), (2 : Int), (3 : Int), (4 : Int)] : List Int), (m__law_told x90 ((eT eI) v_lengths) v_siding).isOk = true) ∧ ([(0 : Int), (2 : Int), (3 : Int), (4 : Int)] : List Int).length < sizeLine ∧ (m__law_same ((eL eD) (([(0 : Int), (2 : Int), (3 : Int), (4 : Int)] : List Int).map fun x90 : Int => (m__law_told x90 ((eT eI) v_lengths) v_siding).get)) ((eL eD) v_due)).isOk = true) (bif (!(m__law_same ((eL eD) (([(0 : Int), (2 : Int), (3 : Int), (4 : Int)] : List Int).map fun x90 : Int => (m__law_told x90 ((eT eI) v_lengths) v_siding).get)) ((eL eD) v_due)).get) then (.rt false) else (grd (((!(isD v_told "tuple")) = false → okEq v_told ∧ ((!inD v_told (v_best.map (eT eI))) = false → isSeqD v_told = true ∧ (itemsD v_told).length < sizeLine ∧ okEq ((eL eD) (((itemsD v_told).filter fun x97 : PyData => (isD x97 "bool")).map fun x97 : PyData => x97))))) (bif ((!(isD v_told "tuple")) || ((!inD v_told (v_best.map (eT eI))) || (!(((itemsD v_told).filter fun x97 : PyData => (isD x97 "bool")).map fun x97 : PyData => x97).isEmpty))) then (.rt false) else (grd (v_best ≠ [] ∧ v_every ≠ [] ∧ (tyT tyI).p v_told = true ∧ ((tyT tyI).f v_told).length + (Z.cutD ((tyT tyI).f v_told) none (some (1 : Int))).length ≤ sizeLine ∧ ((tyT tyI).f v_told).length + ([v_n] : List Int).length ≤ sizeLine ∧ bnd (3 : Int) ∧ (∀ x107 ∈ (rngI 0 (3 : Int)), ∀ d112 : List Nat, 0 < (v_n + (1 : Int))) ∧ (rngI 0 (3 : Int)).length < sizeLine) (lt ([(pkV v_draws v_best), (pkV (tkD v_draws) v_every), ((tyT tyI).f v_told).reverse, (((tyT tyI).f v_told) ++ (Z.cutD ((tyT tyI).f v_told) none (some (1 : Int)))), (((tyT tyI).f v_told) ++ ([v_n] : List Int)), ([(-1 : Int)] : List Int), (mapS (fun (x107 : Int) (d112 : List Nat) => ((tkV d112 (v_n + (1 : Int))), (tkD d112))) (rngI 0 (3 : Int)) (tkD (tkD v_draws))).1] : List (List Int)) fun v_asked : (List (List Int)) => (lt (mapS (fun (x107 : Int) (d112 : List Nat) => ((tkV d112 (v_n + (1 : Int))), (tkD d112))) (rngI 0 (3 : Int)) (tkD (tkD v_draws))).2 fun v_draws : List Nat => (Ctl.bind (forC v_asked (() : Unit) (fun (x113 : (List Int)) (s : Unit) => match s with | _ => (grd ((m__law_is ((eT eI) v_lengths) v_siding x113).isOk = true ∧ (m__law_same (m__law_is ((eT eI) v_lengths) v_siding x113).get (eB (inB x113 v_best))).isOk = true) (bif (!(m__law_same (m__law_is ((eT eI) v_lengths) v_siding x113).get (eB (inB x113 v_best))).get) then (.rt false) else (.nx ())))) : Ctl (Unit) _ _) fun _ => (.nx v_draws)))))))))))))))))))))))))) : Ctl ((List Nat)) _ _) fun v_draws => (grd ((([(5 : Int)] : List Int) ≠ [] ∧ 2 ≤ (61 : Int) ∧ (61 : Int) ≤ 1000 ∧ ([(5 : Int)] : List Int).length ≤ 1000) ∧ ([(eN ()), ((eL eI) ([(5 : Int)] : List Int)), ((eT eI) ([(0 : Int)] : List Int)), ((eT eI) ([(1001 : Int)] : List Int)), ((eT eB) ([true] : List Bool)), ((eT eS) ([("5" : Str)] : List Str)), ((eT eI) (List.replicate ((61 : Int)).toNat ([(5 : Int)] : List Int)).flatten), (eI (5 : Int))] : List PyData) ≠ []) (lt (pkV v_draws ([(eN ()), ((eL eI) ([(5 : Int)] : List Int)), ((eT eI) ([(0 : Int)] : List Int)), ((eT eI) ([(1001 : Int)] : List Int)), ((eT eB) ([true] : List Bool)), ((eT eS) ([("5" : Str)] : List Str)), ((eT eI) (List.replicate ((61 : Int)).toNat ([(5 : Int)] : List Int)).flatten), (eI (5 : Int))] : List PyData)) fun v_bad : PyData => (lt (tkD v_draws) fun v_draws : List Nat => (grd (bnd (5 : Int) ∧ (∀ x129 ∈ (rngI 0 (5 : Int)), (m__law_told x129 v_bad (5 : Int)).isOk = true) ∧ (rngI 0 (5 : Int)).length < sizeLine ∧ (∀ x134 ∈ (rngI 0 (5 : Int)), ∀ d139 : List Nat, ([(-1 : Int), (20001 : Int)] : List Int) ≠ [] ∧ (m__law_told x134 ((eT eI) v_lengths) (pkV d139 ([(-1 : Int), (20001 : Int)] : List Int))).isOk = true) ∧ ((rngI 0 (5 : Int)).map fun x129 : Int => (m__law_told x129 v_bad (5 : Int)).get).length + (mapS (fun (x134 : Int) (d139 : List Nat) => ((m__law_told x134 ((eT eI) v_lengths) (pkV d139 ([(-1 : Int), (20001 : Int)] : List Int))).get, (tkD d139))) (rngI 0 (5 : Int)) v_draws).1.length ≤ sizeLine) (lt ((eL eD) (((rngI 0 (5 : Int)).map fun x129 : Int => (m__law_told x129 v_bad (5 : Int)).get) ++ (mapS (fun (x134 : Int) (d139 : List Nat) => ((m__law_told x134 ((eT eI) v_lengths) (pkV d139 ([(-1 : Int), (20001 : Int)] : List Int))).get, (tkD d139))) (rngI 0 (5 : Int)) v_draws).1)) fun v_told : PyData => (lt (mapS (fun (x134 : Int) (d139 : List Nat) => ((m__law_told x134 ((eT eI) v_lengths) (pkV d139 ([(-1 : Int), (20001 : Int)] : List Int))).get, (tkD d139))) (rngI 0 (5 : Int)) v_draws).2 fun v_draws : List Nat => (grd ((tyL tyD).p v_told = true ∧ (m__law_is v_bad (5 : Int) ([] : (List Int))).isOk = true ∧ (m__law_is ((eT eI) v_lengths) (-1 : Int) ([] : (List Int))).isOk = true ∧ (m__law_is ((eT eI) v_lengths) (20001 : Int) ([] : (List Int))).isOk = true ∧ ((tyL tyD).f v_told).length + ([(m__law_is v_bad (5 : Int) ([] : (List Int))).get, (m__law_is ((eT eI) v_lengths) (-1 : Int) ([] : (List Int))).get, (m__law_is ((eT eI) v_lengths) (20001 : Int) ([] : (List Int))).get] : List PyData).length ≤ sizeLine ∧ (-(2 ^ 63) ≤ (13 : Int) ∧ (13 : Int) < 2 ^ 63 ∧ ([v_refused] : List (List Bool)).length * ((13 : Int)).toNat ≤ sizeLine) ∧ (m__law_same ((eL eD) (((tyL tyD).f v_told) ++ ([(m__law_is v_bad (5 : Int) ([] : (List Int))).get, (m__law_is ((eT eI) v_lengths) (-1 : Int) ([] : (List Int))).get, (m__law_is ((eT eI) v_lengths) (20001 : Int) ([] : (List Int))).get] : List PyData))) ((eL (eL eB)) (List.replicate ((13 : Int)).toNat ([v_refused] : List (List Bool))).flatten)).isOk = true) (.rt (m__law_same ((eL eD) (((tyL tyD).f v_told) ++ ([(m__law_is v_bad (5 : Int) ([] : (List Int))).get, (m__law_is ((eT eI) v_lengths) (-1 : Int) ([] : (List Int))).get, (m__law_is ((eT eI) v_lengths) (20001 : Int) ([] : (List Int))).get] : List PyData))) ((eL (eL eB)) (List.replicate ((13 : Int)).toNat ([v_refused] : List (List Bool))).flatten)).get))))))))))))))))))))))) : Ctl Unit Unit Bool)
end W02

set_option Elab.async false
set_option linter.all false
set_option maxRecDepth 100000
set_option maxHeartbeats 4000000
namespace W02
open PySem PySem.Spec PyProof.Rows L2 Z Y
local macro_rules | `(tactic| walk_at "z") => `(tactic| first
  | ((with_reducible show HS _ _ _ _ _); (first
    | with_reducible refine hs_seq ?_
    | with_reducible refine hs_asg ?_
    | refine hs_asgT2 ?_
    | with_reducible refine hs_ret ?_
    | with_reducible refine hs_if ?_
    | with_reducible refine hs_drop ?_
    | with_reducible refine hs_next ?_
    | with_reducible refine hs_par ?_
    | with_reducible refine hs_par3 ?_
    | ((with_reducible refine hs_aug (x := ?zx) ?zh ?_); (case zh => exact rfl))
    ))
  | ((with_reducible show CP _ _ _ _ _); (first
    | ((with_reducible refine cp_var (r := ?zr) ?zh ?_); (case zh => exact rfl))
    | with_reducible refine cp_int ?_
    | with_reducible refine cp_str ?_
    | with_reducible refine cp_bl ?_
    | with_reducible refine cp_non ?_
    | with_reducible refine cp_ref ?_
    | with_reducible refine cp_ty ?_
    | with_reducible refine cp_op ?_
    | with_reducible refine cp_un ?_
    | with_reducible refine cp_cb ?_
    | with_reducible refine cp_andV ?_
    | with_reducible refine cp_orV ?_
    | with_reducible refine cp_notV ?_
    | with_reducible refine cp_if ?_
    | with_reducible refine cp_call ?_
    | with_reducible refine cp_callS ?_
    | with_reducible refine cp_chain ?_
    | with_reducible refine cp_sl ?_
    | with_reducible refine cp_lst ?_
    | with_reducible refine cp_tup ?_
    | refine cp_bm ?_
    | refine cp_bm0 ?_
    ))
  | ((with_reducible show CA _ _ _ _ _); (first
    | with_reducible refine ca_nil ?_
    | with_reducible refine ca_cons ?_
    ))
  | ((with_reducible show CT _ _ _ _ _); (first
    | with_reducible refine ct_test ?_
    | with_reducible refine ct_b ?_
    | with_reducible refine ct_and ?_
    | with_reducible refine ct_or ?_
    | with_reducible refine ct_not ?_
    | with_reducible refine ct_yes ?_
    ))
  | ((with_reducible show OD _ _ _ _ _ _); (first
    | refine od_ip_add ?_
    | refine od_ip_sub ?_
    | refine od_add_int ?_
    | refine od_sub ?_
    | refine od_lt_int ?_
    | refine od_gt ?_
    | refine od_le ?_
    | refine od_ge ?_
    | refine od_eq_int ?_
    | refine od_eq_str ?_
    | refine od_eq_bool ?_
    | refine od_ne_int ?_
    | refine od_ne_str ?_
    | refine od_ne_bool ?_
    | refine od_mod (by decide) ?_
    | refine od_pow ⟨by decide, by decide, by decide⟩ ?_
    | refine od_fdiv ⟨by decide, by decide⟩ ?_
    | refine od_mulY_int (.inr ⟨by decide, by decide⟩) ?_
    | refine od_mulY_int (.inl ⟨by decide, by decide⟩) ?_
    | refine od_in_sign ?_
    | refine od_notIn_sign ?_
    | refine od_is_bool ?_
    | refine od_isNot_bool ?_
    | refine od_is_none ?_
    | refine od_isNot_none ?_
    ))
  | ((with_reducible show CD _ _ _ _ _); (first
    | refine cd_tup_lst ?_
    | refine cd_list_tup ?_
    | refine cd_list_lst ?_
    | refine cd_max2 ?_
    | refine cd_len_lst ?_
    | refine cd_len_tup ?_
    | refine cd_int_int ?_
    | refine cd_int_bool ?_
    | refine cd_abs ?_
    | refine cd_neg ?_
    | refine cd_isi (by decide) ?_
    ))
  | ((with_reducible show CG _ _ _ _ _ _); (first
    | with_reducible refine cg_name ?_
    | refine cg_tup2 ?_
    ))
  | ((with_reducible show SD _ _ _ _ _ _ _); (first
    | refine sd_tup ?_
    | refine sd_lst ?_
    ))
  | ((with_reducible show CO _ _ _ _ _); (first
    | with_reducible refine co_none ?_
    | with_reducible refine co_some ?_
    ))
  | ((fail_if_success (with_reducible show HS _ _ _ _ _)); (fail_if_success (with_reducible show CP _ _ _ _ _)); (fail_if_success (with_reducible show OD _ _ _ _ _ _)); (fail_if_success (with_reducible show CD _ _ _ _ _)); (fail_if_success (with_reducible show CA _ _ _ _ _)); (fail_if_success (with_reducible show CT _ _ _ _ _)); (fail_if_success (with_reducible show CG _ _ _ _ _ _)); (fail_if_success (with_reducible show ite _ _ _)); (first
    | refine ⟨_, _, _, rfl, ?_⟩
    | refine ⟨_, rfl, ?_⟩
    | refine ⟨_, _, rfl, ?_⟩
    | refine ⟨[], rfl, szl _ (Nat.le_trans (Nat.le_of_eq (show _ = 0 from rfl)) (by decide)), ?_⟩
    | refine ⟨[_], rfl, szl _ (Nat.le_trans (Nat.le_of_eq (show _ = 1 from rfl)) (by decide)), ?_⟩
    | refine ⟨[_, _], rfl, szl _ (Nat.le_trans (Nat.le_of_eq (show _ = 2 from rfl)) (by decide)), ?_⟩
    | refine ⟨[_, _, _], rfl, szl _ (Nat.le_trans (Nat.le_of_eq (show _ = 3 from rfl)) (by decide)), ?_⟩
    | refine ⟨[_, _, _, _], rfl, szl _ (Nat.le_trans (Nat.le_of_eq (show _ = 4 from rfl)) (by decide)), ?_⟩
    | refine ⟨[_, _, _, _, _], rfl, szl _ (Nat.le_trans (Nat.le_of_eq (show _ = 5 from rfl)) (by decide)), ?_⟩
    | refine ⟨[_, _, _, _, _, _], rfl, szl _ (Nat.le_trans (Nat.le_of_eq (show _ = 6 from rfl)) (by decide)), ?_⟩
    | refine ⟨[_, _, _, _, _, _, _], rfl, szl _ (Nat.le_trans (Nat.le_of_eq (show _ = 7 from rfl)) (by decide)), ?_⟩
    | refine ⟨[_, _, _, _, _, _, _, _], rfl, szl _ (Nat.le_trans (Nat.le_of_eq (show _ = 8 from rfl)) (by decide)), ?_⟩
    | refine ⟨[_, _, _, _, _, _, _, _, _], rfl, szl _ (Nat.le_trans (Nat.le_of_eq (show _ = 9 from rfl)) (by decide)), ?_⟩
    ))
  | ((with_reducible show ite _ _ _); (first
    | with_reducible refine ite_t ?_
    | refine ite_t ?_
    | refine ite_f ?_
    ))
  | ((with_reducible show And _ _); (first
    | refine ⟨(show rsTy _ (Rs.own _) _ from ⟨_, (by first | exact plus_mem | assumption), rfl⟩), ?_⟩
    | refine ⟨(show rsTy _ (Rs.dat _) _ from ⟨rfl, by decide⟩), ?_⟩
    )))
def top (i : Nat) : Stmt := PySem.Challenge.pw_humpyard_k02_whole_full_sidings_by_all_c.main.body.getD i (.Pass ⟨0, 0, 0, 0⟩)
section
variable {P : Program} {w : World} {K : PySem.W.Frag} {mg : Str → Option Value} {base : Heap}
abbrev s__law_take : Stmt := top 34
theorem sc__law_take : FnScope ["draws", "bound"] ["draws", "bound"] (defScope s__law_take) := ⟨rfl, rfl, rfl, by decide +kernel, rfl, by decide +kernel, by decide +kernel⟩
abbrev ps__law_take : List Str := ["draws", "bound"]
theorem ok__law_take {f : Addr} {fd : FuncData} (D : DefAt K mg "_law_take" s__law_take ps__law_take f fd) (B_len : mg "len" = none) (B_int : mg "int" = none) : Has P w K mg base 1 "_law_take" ps__law_take d_take := by
  refine ⟨f, fd, D.g, D.F.kp, D.b, fn_z D.F sc__law_take (fun rs L k x h => ?_) fun cdv A outer s H E hr => ?_⟩
  · obtain ⟨ds, p, b, rfl, _⟩ := h
    rfl
  · have nd := sc__law_take.nd
    refine ⟨_, (pss_cons (ps_if (pt_cmpR (op_eqZ hr.units) (pe_callB call_lenZ (by rfl) B_len (by decide +kernel) (pa_cons (pv 0) pa_nil)) pe_int (nomark _)) (pss_one (ps_ret pe_int)) pss_nil)
    (pss_one (ps_ret (pe_op op_mod (pe_callTy call_intZ (by rfl) B_int (by decide +kernel) (pa_cons (pe_bm0 PySem.F.plainAttrs_list PySem.F.slot_list_pop PySem.F.type_list_pop mt_pop (pv 0)) pa_nil)) (pv 1))))), fun rs L q x h => ?_⟩
    obtain ⟨ds, l, b, rfl, m, hb, hq⟩ := h
    refine hs_base m ?_
    have mm := mem_up (L := L) (a := l) (m := .lst (ds.map natD)) (Led.key m)
    repeat walk_at "z"
    refine cd_len_own mm ?_
    repeat walk_at "z"
    refine ite_b (fun hc => ?_) fun hc => ?_
    · have he : ds = [] := by simpa using hc
      subst he
      repeat walk_at "z"
      exact ⟨_, _, wk_refl, .dat _, keeps_up, hq⟩
    · have hne : ds ≠ [] := fun z => by
        subst z
        simp at hc
      obtain ⟨n, hn⟩ : ∃ n, ds.getLast? = some n := by
        cases e : ds.getLast? with
        | none => exact absurd (List.getLast?_eq_none_iff.mp e) hne
        | some n => exact ⟨n, rfl⟩
      have hv : tkV ds b = (n : Int) % b := by
        unfold tkV
        rw [hn]
      rw [hv] at hq
      repeat walk_at "z"
      refine md_pop mm (d := natD n) ?_ ?_
      · rw [List.length_map, List.getElem?_map, ← List.getLast?_eq_getElem?, hn]
        rfl
      · rw [← List.map_dropLast, up_up]
        repeat walk_at "z"
        refine od_mod hb ?_
        exact ⟨_, _, wk_refl, .dat _, keeps_up, hq⟩
abbrev s__law_pick : Stmt := top 35
theorem sc__law_pick : FnScope ["draws", "some"] ["draws", "some"] (defScope s__law_pick) := ⟨rfl, rfl, rfl, by decide +kernel, rfl, by decide +kernel, by decide +kernel⟩
abbrev ps__law_pick : List Str := ["draws", "some"]
theorem ok__law_pick {f : Addr} {fd : FuncData} (D : DefAt K mg "_law_pick" s__law_pick ps__law_pick f fd) (B_len : mg "len" = none) (H_take : Has P w K mg base 1 "_law_take" ps__law_take d_take) : Has P w K mg base 2 "_law_pick" ps__law_pick d_pick := by
  obtain ⟨_, _, g__law_take, kp__law_take, b__law_take, G__law_take⟩ := H_take
  refine ⟨f, fd, D.g, D.F.kp, D.b, fn_z D.F sc__law_pick (fun rs L k x h => ?_) fun cdv A outer s H E hr => ?_⟩
  · obtain ⟨ds, p, s, _, rfl, _⟩ := h
    rfl
  · have nd := sc__law_pick.nd
    refine ⟨_, (pss_one (ps_ret (pe_ix ix_seq (pv 1) (pe_call G__law_take (hr.mono (by first | decide | omega)) (by rfl) g__law_take kp__law_take b__law_take .nil pass0 (pa_cons (pv 0) (pa_cons (pe_callB call_lenZ (by rfl) B_len (by decide +kernel) (pa_cons (pv 1) pa_nil)) pa_nil))) (fun _ _ => rfl)))), fun rs L q x h => ?_⟩
    obtain ⟨ds, l, s, m, rfl, hl, hs, hne, hq⟩ := h
    have hp : (0 : Int) < (itemsD s).length := by
      have := List.length_pos_iff.mpr hne
      omega
    have hok := pk_ok (ds := ds) hne
    cases s with
    | list xs =>
      repeat walk_at "z"
      refine ⟨ds, l, _, rfl, m, hp, ?_⟩
      have e := atI_ix (xs := xs) hok (fun x : PyData => x)
      rw [List.map_id'] at e
      exact od_ix_lst e ⟨_, _, wk_refl, .dat _, keeps_up, hq⟩
    | tuple xs =>
      repeat walk_at "z"
      refine ⟨ds, l, _, rfl, m, hp, ?_⟩
      have e := atI_ix (xs := xs) hok (fun x : PyData => x)
      rw [List.map_id'] at e
      exact od_ix_tup e ⟨_, _, wk_refl, .dat _, keeps_up, hq⟩
    | str z =>
      have hz : z.length ≤ sizeLine := of_decide_eq_true hl
      have hzl : ((itemsD (.str z)).length : Int) = (z.length : Int) := by
        show ((z.cps.toList.map sgn).length : Int) = _
        rw [List.length_map, Array.length_toList]
        rfl
      repeat walk_at "z"
      refine cd_len_str hz ?_
      repeat walk_at "z"
      refine ⟨ds, l, _, rfl, m, by rw [hzl] at hp; exact hp, ?_⟩
      have e : atI (z.cps.toList.map sgn) (tkV ds (itemsD (.str z)).length) = some (pkV ds (itemsD (.str z))) := by
        have e := atI_ix (xs := itemsD (.str z)) hok (fun x : PyData => x)
        rw [List.map_id'] at e
        exact e
      rw [atI_map, hzl] at e
      cases ea : atI z.cps.toList (tkV ds (z.length : Int)) with
      | none =>
        rw [ea] at e
        cases e
      | some c =>
        rw [ea] at e
        have e := Option.some.inj e
        refine od_ix_str hz ea ?_
        rw [← e] at hq
        exact ⟨_, _, wk_refl, .dat _, keeps_up, hq⟩
    | _ => cases hs
abbrev s__law_draws : Stmt := top 33
theorem sc__law_draws : FnScope ["script", "draws", "seed", "cell", "number", "k"] ["script"] (defScope s__law_draws) := ⟨rfl, rfl, rfl, by decide +kernel, rfl, by decide +kernel, by decide +kernel⟩
abbrev ps__law_draws : List Str := ["script"]
theorem ok__law_draws {f : Addr} {fd : FuncData} (D : DefAt K mg "_law_draws" s__law_draws ps__law_draws f fd) (B_int : mg "int" = none) (B_abs : mg "abs" = none) (B_range : mg "range" = none) (B_list : mg "list" = none) (B_reversed : mg "reversed" = none) : Has P w K mg base 1 "_law_draws" ps__law_draws d_draws := by
  refine ⟨f, fd, D.g, D.F.kp, D.b, fn_z D.F sc__law_draws (fun rs L k x h => ?_) fun cdv A outer s H E hr => ?_⟩
  · obtain ⟨ns, rfl, _⟩ := h
    rfl
  · have nd := sc__law_draws.nd
    refine ⟨_, (pss_cons (ps_set (i := 1) nd rfl (by first | exact .inl rfl | exact .inr rfl) (pe_lst pa_nil))
    (pss_cons (ps_set (i := 2) nd rfl (by first | exact .inl rfl | exact .inr rfl) pe_int)
    (pss_cons (ps_for PassesOwn.never rfl (pi_sq (pv 0)) (pg_name (i := 3) nd rfl (by first | exact .inl rfl | exact .inr rfl))
      (pss_cons (ps_set (i := 4) nd rfl (by first | exact .inl rfl | exact .inr rfl) (pe_callB call_abs (by rfl) B_abs (by decide +kernel) (pa_cons (pe_callTy call_intZ (by rfl) B_int (by decide +kernel) (pa_cons (pv 3) pa_nil)) pa_nil)))
      (pss_cons (ps_set (i := 2) nd rfl (by first | exact .inl rfl | exact .inr rfl) (pe_op op_mod (pe_callTy call_intZ (by rfl) B_int (by decide +kernel) (pa_cons (pe_op op_addZ (pe_op op_addZ (pe_op op_mulY (pv 2) pe_int) (pv 4)) pe_int) pa_nil)) pe_int))
      (pss_cons (ps_if (pt_cmpR op_ltZ (pv 4) (pe_op op_pow pe_int pe_int) (nomark _)) (pss_cons (ps_expr (pe_bm PySem.F.plainAttrs_list PySem.F.slot_list_append PySem.F.type_list_append mt_append (pv 1) (pa_cons (pe_op op_mod (pe_callTy call_intZ (by rfl) B_int (by decide +kernel) (pa_cons (pv 4) pa_nil)) pe_int) pa_nil)))
        (pss_cons (ps_expr (pe_bm PySem.F.plainAttrs_list PySem.F.slot_list_append PySem.F.type_list_append mt_append (pv 1) (pa_cons (pe_op op_mod (pe_callTy call_intZ (by rfl) B_int (by decide +kernel) (pa_cons (pv 2) pa_nil)) pe_int) pa_nil)))
        (pss_one (ps_set (i := 4) nd rfl (by first | exact .inl rfl | exact .inr rfl) pe_int)))) pss_nil)
      (pss_one (ps_for PassesOwn.never rfl (pi_range1 (by rfl) B_range (pa_cons pe_int pa_nil)) (pg_name (i := 5) nd rfl (by first | exact .inl rfl | exact .inr rfl))
        (pss_one (ps_if (pt_cmpR op_gtZ (pv 4) pe_int (nomark _)) (pss_cons (ps_expr (pe_bm PySem.F.plainAttrs_list PySem.F.slot_list_append PySem.F.type_list_append mt_append (pv 1) (pa_cons (pe_op op_mod (pe_callTy call_intZ (by rfl) B_int (by decide +kernel) (pa_cons (pv 4) pa_nil)) pe_int) pa_nil)))
          (pss_one (ps_set (i := 4) nd rfl (by first | exact .inl rfl | exact .inr rfl) (pe_op op_fdivW (pv 4) pe_int)))) pss_nil))))))))
    (pss_cons (ps_for PassesOwn.never rfl (pi_range1 (by rfl) B_range (pa_cons pe_int pa_nil)) (pg_name (i := 5) nd rfl (by first | exact .inl rfl | exact .inr rfl))
      (pss_cons (ps_set (i := 2) nd rfl (by first | exact .inl rfl | exact .inr rfl) (pe_op op_mod (pe_callTy call_intZ (by rfl) B_int (by decide +kernel) (pa_cons (pe_op op_addZ (pe_op op_mulY (pv 2) pe_int) pe_int) pa_nil)) pe_int))
      (pss_one (ps_expr (pe_bm PySem.F.plainAttrs_list PySem.F.slot_list_append PySem.F.type_list_append mt_append (pv 1) (pa_cons (pe_op op_fdivW (pv 2) pe_int) pa_nil))))))
    (pss_one (ps_ret (pe_lrev rfl (by rfl) B_list (by rfl) B_reversed (pv 1)))))))), fun rs L q x h => ?_⟩
    obtain ⟨ns, rfl, hn, hq⟩ := h
    refine hs_seq ?_
    refine hs_asg ?_
    refine cp_lstO ?_
    refine ca_nil ?_
    refine ⟨[], rfl, szl _ (by decide), fun p hp => ?_⟩
    repeat walk_at "z"
    refine hs_for ?_
    refine ci_sq ?_
    refine cp_var rfl ?_
    refine ⟨_, .scr ns, fun i ε' L' => ∃ (ms : List Nat) (s : Int) (c nm kk : Option Rs), 0 ≤ s ∧ ms.length ≤ 62 * i ∧ ε' = [some (.scr ns), some (.own p), some (.dat (.int s)), c, nm, kk] ∧ L' = plus L p (ms.map natD), ⟨[], 11, _, _, _, by decide, Nat.zero_le _, rfl, rfl⟩, ?_, ?_⟩
    · rintro i d ε' L' hd ⟨ms, s, c, nm, kk, hs, hl, rfl, rfl⟩
      obtain ⟨n, hn', rfl⟩ := map_get hd
      refine cg_name ?_
      repeat walk_at "z"
      have hN : 0 ≤ (if n < 0 then -n else n) := by split <;> omega
      generalize (if n < 0 then -n else n) = N at hN ⊢
      have hS : 0 ≤ (s * 48271 + N + 1) % 2147483647 := Int.emod_nonneg _ (by decide)
      generalize (s * 48271 + N + 1) % 2147483647 = S at hS ⊢
      have hi : i < ns.length := (List.getElem?_eq_some_iff.mp hn').1
      refine hs_join (fun ε' L' => ∃ (ms : List Nat) (N : Int), 0 ≤ N ∧ ms.length ≤ 62 * i + 2 ∧ ε' = [some (.scr ns), some (.own p), some (.dat (.int S)), some (.dat (.int n)), some (.dat (.int N)), kk] ∧ L' = plus L p (ms.map natD)) (ite_b (fun hc => ?_) fun hc => ?_) ?_
      · repeat walk_at "z"
        refine md_append plus_mem (sz _ (by rw [List.length_map]; omega)) ?_
        rw [up_plus hp, natD_app ms (Int.emod_nonneg _ (by decide))]
        repeat walk_at "z"
        refine md_append plus_mem (sz _ (by rw [List.length_map, List.length_append, List.length_singleton]; omega)) ?_
        rw [up_plus hp, natD_app _ (Int.emod_nonneg _ (by decide))]
        repeat walk_at "z"
        exact ⟨_, 0, Int.le_refl 0, by rw [List.length_append, List.length_append, List.length_singleton, List.length_singleton]; omega, rfl, rfl⟩
      · repeat walk_at "z"
        exact ⟨ms, N, hN, by omega, rfl, rfl⟩
      · rintro ε' L' ⟨ms, N, hN, hl, rfl, rfl⟩
        refine hs_for ?_
        refine ci_range1 ?_
        repeat walk_at "z"
        refine ⟨by decide, fun j ε' L' => ∃ (ms : List Nat) (N : Int) (kk : Option Rs), 0 ≤ N ∧ ms.length ≤ 62 * i + 2 + j ∧ ε' = [some (.scr ns), some (.own p), some (.dat (.int S)), some (.dat (.int n)), some (.dat (.int N)), kk] ∧ L' = plus L p (ms.map natD), ⟨ms, N, _, hN, hl, rfl, rfl⟩, ?_, ?_⟩
        · rintro j d ε' L' hd ⟨ms, N, kk, hN, hl, rfl, rfl⟩
          obtain ⟨rfl, hj⟩ := rng_get hd
          have hj' : j < 60 := hj
          refine cg_name ?_
          repeat walk_at "z"
          refine ite_b (fun hc => ?_) fun hc => ?_
          · repeat walk_at "z"
            refine md_append plus_mem (sz _ (by rw [List.length_map]; omega)) ?_
            rw [up_plus hp, natD_app _ (Int.emod_nonneg _ (by decide))]
            repeat walk_at "z"
            exact ⟨_, _, _, Int.ediv_nonneg hN (by decide), by rw [List.length_append, List.length_singleton]; omega, rfl, rfl⟩
          · repeat walk_at "z"
            exact ⟨ms, N, _, hN, by omega, rfl, rfl⟩
        · rintro ε' L' ⟨ms, N, kk, hN, hl, rfl, rfl⟩
          rw [rng_len] at hl
          have hl' : ms.length ≤ 62 * i + 2 + 60 := hl
          exact ⟨ms, S, _, _, _, hS, by omega, rfl, rfl⟩
    · rintro ε' L' ⟨ms, s, c, nm, kk, hs, hl, rfl, rfl⟩
      rw [List.length_map] at hl
      repeat walk_at "z"
      refine hs_for ?_
      refine ci_range1 ?_
      repeat walk_at "z"
      refine ⟨by decide, fun j ε' L' => ∃ (ms : List Nat) (s : Int) (kk : Option Rs), 0 ≤ s ∧ ms.length ≤ 62 * 63 + j ∧ ε' = [some (.scr ns), some (.own p), some (.dat (.int s)), c, nm, kk] ∧ L' = plus L p (ms.map natD), ⟨ms, s, _, hs, by omega, rfl, rfl⟩, ?_, ?_⟩
      · rintro j d ε' L' hd ⟨ms, s, kk, hs, hl, rfl, rfl⟩
        obtain ⟨rfl, hj⟩ := rng_get hd
        have hj' : j < 300 := hj
        refine cg_name ?_
        repeat walk_at "z"
        have hS : 0 ≤ (s * 48271 + 69621) % 2147483647 := Int.emod_nonneg _ (by decide)
        refine md_append plus_mem (sz _ (by rw [List.length_map]; omega)) ?_
        rw [up_plus hp, natD_app _ (Int.ediv_nonneg hS (by decide))]
        repeat walk_at "z"
        exact ⟨_, _, _, hS, by rw [List.length_append, List.length_singleton]; omega, rfl, rfl⟩
      · rintro ε' L' ⟨ms, s, kk, hs, hl, rfl, rfl⟩
        repeat walk_at "z"
        refine cp_lrev (a := p) (ds := ms.map natD) ?_
        repeat walk_at "z"
        refine ⟨rfl, plus_mem, fun p2 hp2 => ?_⟩
        rw [← List.map_reverse]
        exact ⟨_, _, wk_of_sub (List.Sublist.append (List.sublist_append_left _ _) (List.Sublist.refl _)), .own (Led.key plus_mem), keeps_own, hq p2 ms.reverse fun z => hp2 (keeps_own _ z)⟩
abbrev s__law_same : Stmt := top 36
theorem sc__law_same : FnScope ["actual", "due", "k", "key"] ["actual", "due"] (defScope s__law_same) := ⟨rfl, rfl, rfl, by decide +kernel, rfl, by decide +kernel, by decide +kernel⟩
abbrev ps__law_same : List Str := ["actual", "due"]
theorem ok__law_same {f : Addr} {fd : FuncData} (D : DefAt K mg "_law_same" s__law_same ps__law_same f fd) (B_len : mg "len" = none) (B_range : mg "range" = none) (B_isinstance : mg "isinstance" = none) (B_tuple : mg "tuple" = none) (B_list : mg "list" = none) (B_dict : mg "dict" = none) (B_bool : mg "bool" = none) (B_int : mg "int" = none) (B_str : mg "str" = none) :
    ∀ n, Has P w K mg base n "_law_same" ps__law_same (dSame n)
  | 0 => ⟨f, fd, D.g, D.F.kp, D.b, ⟨fun vs H Q E h => by
      obtain ⟨_, _, _, _, _, _, h, _⟩ := h
      exact h.elim, fun A outer s H args us vs Q E _ _ _ _ h => by
      obtain ⟨_, _, _, _, _, _, h, _⟩ := h
      exact h.elim⟩⟩
  | n + 1 => by
    obtain ⟨_, _, g__law_same, kp__law_same, b__law_same, G__law_same⟩ := ok__law_same D B_len B_range B_isinstance B_tuple B_list B_dict B_bool B_int B_str n
    refine ⟨f, fd, D.g, D.F.kp, D.b, fn_z D.F sc__law_same (fun rs L k x h => ?_) fun cdv A outer s H E hr => ?_⟩
    · obtain ⟨d, rfl, _⟩ := h
      rfl
    · have nd := sc__law_same.nd
      refine ⟨_, (pss_cons (ps_if (pt_cmpR op_isZ (pv 1) pe_non (nomark _)) (pss_one (ps_ret (pe_cmpR op_isZ (pv 0) pe_non (nomark _)))) pss_nil)
    (pss_cons (ps_if (PW.pt (pw_or (pt_val (pe_callB call_isi (by rfl) B_isinstance (by decide +kernel) (pa_cons (pv 1) (pa_cons (pe_bltn (v := .ty "tuple") (by rfl) B_tuple (by decide +kernel) rfl) pa_nil)))) (pw_or1 (pt_val (pe_callB call_isi (by rfl) B_isinstance (by decide +kernel) (pa_cons (pv 1) (pa_cons (pe_bltn (v := .ty "list") (by rfl) B_list (by decide +kernel) rfl) pa_nil))))))) (pss_cons (ps_if (PW.pt (pw_or (pt_cmpR (op_neZ hr.units) (pe_callB call_isi (by rfl) B_isinstance (by decide +kernel) (pa_cons (pv 1) (pa_cons (pe_bltn (v := .ty "tuple") (by rfl) B_tuple (by decide +kernel) rfl) pa_nil))) (pe_callB call_isi (by rfl) B_isinstance (by decide +kernel) (pa_cons (pv 0) (pa_cons (pe_bltn (v := .ty "tuple") (by rfl) B_tuple (by decide +kernel) rfl) pa_nil))) (nomark _)) (pw_or1 (pt_cmpR (op_neZ hr.units) (pe_callB call_isi (by rfl) B_isinstance (by decide +kernel) (pa_cons (pv 1) (pa_cons (pe_bltn (v := .ty "list") (by rfl) B_list (by decide +kernel) rfl) pa_nil))) (pe_callB call_isi (by rfl) B_isinstance (by decide +kernel) (pa_cons (pv 0) (pa_cons (pe_bltn (v := .ty "list") (by rfl) B_list (by decide +kernel) rfl) pa_nil))) (nomark _))))) (pss_one (ps_ret pe_bl)) pss_nil)
      (pss_cons (ps_if (pt_cmpR (op_neZ hr.units) (pe_callB call_lenZ (by rfl) B_len (by decide +kernel) (pa_cons (pv 0) pa_nil)) (pe_callB call_lenZ (by rfl) B_len (by decide +kernel) (pa_cons (pv 1) pa_nil)) (nomark _)) (pss_one (ps_ret pe_bl)) pss_nil)
      (pss_cons (ps_for PassesOwn.never rfl (pi_range1 (by rfl) B_range (pa_cons (pe_callB call_lenZ (by rfl) B_len (by decide +kernel) (pa_cons (pv 1) pa_nil)) pa_nil)) (pg_name (i := 2) nd rfl (by first | exact .inl rfl | exact .inr rfl))
        (pss_one (ps_if (pt_not (pt_val (pe_call G__law_same (hr.mono (by first | decide | omega)) (by rfl) g__law_same kp__law_same b__law_same .nil pass0 (pa_cons (pe_ix ix_seq (pv 0) (pv 2) (fun _ _ => rfl)) (pa_cons (pe_ix ix_seq (pv 1) (pv 2) (fun _ _ => rfl)) pa_nil))))) (pss_one (ps_ret pe_bl)) pss_nil)))
      (pss_one (ps_ret pe_bl))))) pss_nil)
    (pss_cons (ps_if (pt_val (pe_callB call_isi (by rfl) B_isinstance (by decide +kernel) (pa_cons (pv 1) (pa_cons (pe_bltn (v := .ty "dict") (by rfl) B_dict (by decide +kernel) rfl) pa_nil)))) (pss_cons (ps_if (PW.pt (pw_or (pt_not (pt_val (pe_callB call_isi (by rfl) B_isinstance (by decide +kernel) (pa_cons (pv 0) (pa_cons (pe_bltn (v := .ty "dict") (by rfl) B_dict (by decide +kernel) rfl) pa_nil))))) (pw_or1 (pt_cmpR (op_neZ hr.units) (pe_callB call_lenZ (by rfl) B_len (by decide +kernel) (pa_cons (pv 0) pa_nil)) (pe_callB call_lenZ (by rfl) B_len (by decide +kernel) (pa_cons (pv 1) pa_nil)) (nomark _))))) (pss_one (ps_ret pe_bl)) pss_nil)
      (pss_one (ps_ret (pe_cmpR (op_eqZ hr.units) (pe_lc (own := [("key", 3)]) rfl nd (pi_sq (pv 1)) (blkOk_by (own := [("key", 3)]) (N := ["actual", "due", "k", "key"]) (sc := defScope s__law_same) (by decide +kernel)) (fun _ _ _ _ _ => (pg_name (i := 3) nd rfl (by first | exact .inl rfl | exact .inr rfl))) (fun _ _ _ _ _ => (pts_one (PW.pt (pw_or (pt_cmpR (opK (r := rNotInY) (K := K) (op_notInY (inU hr)) (by rfl)) (pv 3) (pv 0) (by rfl)) (pw_or1 (pt_not (pt_val (pe_call G__law_same (hr.mono (by first | decide | omega)) (by rfl) g__law_same kp__law_same b__law_same .nil pass0 (pa_cons (pe_ix (ixK (r := rIx) (K := K) ix_seq (by rfl)) (pv 0) (pv 3) (fun _ _ => rfl)) (pa_cons (pe_ix (ixK (r := rIx) (K := K) ix_seq (by rfl)) (pv 1) (pv 3) (fun _ _ => rfl)) pa_nil)))))))))) (fun _ _ _ _ _ => (pv 3))) (pe_lst pa_nil) (nomark _))))) pss_nil)
    (pss_cons (ps_if (pt_cmpR (op_neZ hr.units) (pe_callB call_isi (by rfl) B_isinstance (by decide +kernel) (pa_cons (pv 1) (pa_cons (pe_bltn (v := .ty "bool") (by rfl) B_bool (by decide +kernel) rfl) pa_nil))) (pe_callB call_isi (by rfl) B_isinstance (by decide +kernel) (pa_cons (pv 0) (pa_cons (pe_bltn (v := .ty "bool") (by rfl) B_bool (by decide +kernel) rfl) pa_nil))) (nomark _)) (pss_one (ps_ret pe_bl)) pss_nil)
    (pss_cons (ps_if (PW.pt (pw_or (pt_cmpR (op_neZ hr.units) (pe_callB call_isi (by rfl) B_isinstance (by decide +kernel) (pa_cons (pv 1) (pa_cons (pe_bltn (v := .ty "int") (by rfl) B_int (by decide +kernel) rfl) pa_nil))) (pe_callB call_isi (by rfl) B_isinstance (by decide +kernel) (pa_cons (pv 0) (pa_cons (pe_bltn (v := .ty "int") (by rfl) B_int (by decide +kernel) rfl) pa_nil))) (nomark _)) (pw_or1 (pt_cmpR (op_neZ hr.units) (pe_callB call_isi (by rfl) B_isinstance (by decide +kernel) (pa_cons (pv 1) (pa_cons (pe_bltn (v := .ty "str") (by rfl) B_str (by decide +kernel) rfl) pa_nil))) (pe_callB call_isi (by rfl) B_isinstance (by decide +kernel) (pa_cons (pv 0) (pa_cons (pe_bltn (v := .ty "str") (by rfl) B_str (by decide +kernel) rfl) pa_nil))) (nomark _))))) (pss_one (ps_ret pe_bl)) pss_nil)
    (pss_one (ps_ret (pe_cmpR (op_eqZ hr.units) (pv 0) (pv 1) (nomark _))))))))), fun rs L q x h => ?_⟩
      obtain ⟨d, rfl, ok, hq⟩ := h
      cases d with
      | dict ds => cases n <;> exact ok.elim
      | none =>
        repeat walk_at "z"
        exact rt_dat hq
      | bool b =>
        repeat walk_at "z"
        rw [beq_self_eq_true]
        exact rt_dat hq
      | int b =>
        repeat walk_at "z"
        rw [beq_self_eq_true]
        exact rt_dat hq
      | str b =>
        repeat walk_at "z"
        rw [beq_self_eq_true]
        exact rt_dat hq
      | list ds =>
        repeat walk_at "z"
        rw [show (!((ds.length : Int) == (ds.length : Int))) = false from by rw [beq_self_eq_true]; rfl]
        repeat walk_at "z"
        have ok : ∃ m, n = m + 1 ∧ ds.length ≤ 1000000 ∧ ∀ d ∈ ds, okD m d := by
          cases n with
          | zero => exact ok.elim
          | succ m => exact ⟨m, rfl, ok⟩
        obtain ⟨m, rfl, hl, ok⟩ := ok
        refine hs_for ?_
        refine ci_range1 ?_
        repeat walk_at "z"
        refine ⟨by omega, fun i ε' L' => ∃ kk, ε' = [some (.dat (.list ds)), some (.dat (.list ds)), kk, none] ∧ L' = L, ⟨_, rfl, rfl⟩, ?_, ?_⟩
        · rintro i d ε' L' hd ⟨kk, rfl, rfl⟩
          obtain ⟨rfl, hi⟩ := rng_get hd
          have hi : i < ds.length := by omega
          have ec : ds[i]? = some ds[i] := List.getElem?_eq_getElem hi
          generalize ds[i] = e at ec
          rw [Int.zero_add]
          refine cg_name ?_
          repeat walk_at "z"
          refine od_ix_lst (atI_nat ec) ?_
          repeat walk_at "z"
          refine od_ix_lst (atI_nat ec) ?_
          repeat walk_at "z"
          refine ⟨ok e (List.mem_of_getElem? ec), ?_⟩
          repeat walk_at "z"
          first | exact rfl | exact ⟨_, rfl, rfl⟩
        · rintro ε' L' ⟨kk, rfl, rfl⟩
          repeat walk_at "z"
          exact rt_dat hq
      | tuple ds =>
        repeat walk_at "z"
        rw [show (!((ds.length : Int) == (ds.length : Int))) = false from by rw [beq_self_eq_true]; rfl]
        repeat walk_at "z"
        have ok : ∃ m, n = m + 1 ∧ ds.length ≤ 1000000 ∧ ∀ d ∈ ds, okD m d := by
          cases n with
          | zero => exact ok.elim
          | succ m => exact ⟨m, rfl, ok⟩
        obtain ⟨m, rfl, hl, ok⟩ := ok
        refine hs_for ?_
        refine ci_range1 ?_
        repeat walk_at "z"
        refine ⟨by omega, fun i ε' L' => ∃ kk, ε' = [some (.dat (.tuple ds)), some (.dat (.tuple ds)), kk, none] ∧ L' = L, ⟨_, rfl, rfl⟩, ?_, ?_⟩
        · rintro i d ε' L' hd ⟨kk, rfl, rfl⟩
          obtain ⟨rfl, hi⟩ := rng_get hd
          have hi : i < ds.length := by omega
          have ec : ds[i]? = some ds[i] := List.getElem?_eq_getElem hi
          generalize ds[i] = e at ec
          rw [Int.zero_add]
          refine cg_name ?_
          repeat walk_at "z"
          refine od_ix_tup (atI_nat ec) ?_
          repeat walk_at "z"
          refine od_ix_tup (atI_nat ec) ?_
          repeat walk_at "z"
          refine ⟨ok e (List.mem_of_getElem? ec), ?_⟩
          repeat walk_at "z"
          first | exact rfl | exact ⟨_, rfl, rfl⟩
        · rintro ε' L' ⟨kk, rfl, rfl⟩
          repeat walk_at "z"
          exact rt_dat hq
theorem okS__law_same {f : Addr} {fd : FuncData} (D : DefAt K mg "_law_same" s__law_same ps__law_same f fd) (B_len : mg "len" = none) (B_range : mg "range" = none) (B_isinstance : mg "isinstance" = none) (B_tuple : mg "tuple" = none) (B_list : mg "list" = none) (B_dict : mg "dict" = none) (B_bool : mg "bool" = none) (B_int : mg "int" = none) (B_str : mg "str" = none) :
    Has P w K mg base 9 "_law_same" ps__law_same d_same := has_imp (ok__law_same D B_len B_range B_isinstance B_tuple B_list B_dict B_bool B_int B_str 9) fun _ _ _ _ h => same_dSame h
abbrev s__law_flags : Stmt := top 37
theorem sc__law_flags : FnScope ["e"] ["e"] (defScope s__law_flags) := ⟨rfl, rfl, rfl, by decide +kernel, rfl, by decide +kernel, by decide +kernel⟩
abbrev ps__law_flags : List Str := ["e"]
def cls5 (mg : Str → Option Value) (c1 c2 c3 c4 c5 : Addr) : Prop := mg "NotRight" = some (.ref c1) ∧ mg "NotThere" = some (.ref c2) ∧ mg "NoAnswer" = some (.ref c3) ∧ mg "TooLarge" = some (.ref c4) ∧ mg "Malformed" = some (.ref c5)
theorem ok__law_flags {f : Addr} {fd : FuncData} (D : DefAt K mg "_law_flags" s__law_flags ps__law_flags f fd) {C_NotRight C_NotThere C_NoAnswer C_TooLarge C_Malformed : Addr} (B_isinstance : mg "isinstance" = none) (G : cls5 mg C_NotRight C_NotThere C_NoAnswer C_TooLarge C_Malformed) : HasQ P w K mg base 1 "_law_flags" ps__law_flags (spFlags K [C_NotRight, C_NotThere, C_NoAnswer, C_TooLarge, C_Malformed]) := by
  obtain ⟨g_NotRight, g_NotThere, g_NoAnswer, g_TooLarge, g_Malformed⟩ := G
  refine ⟨f, fd, D.g, D.F.kp, D.b, fn_q D.F sc__law_flags (fun a D vs H Q E h => ?_) fun cdv A outer s H vs Q p D hr hz hf h => ?_⟩
  · obtain ⟨rfl, _⟩ := h
    rfl
  · obtain ⟨rfl, XC, bs, hp, hq⟩ := h
    have nd := sc__law_flags.nd
    refine ⟨_, (pss_one (ps_ret (pe_lst (pa_cons (pe_callB (call_isQ XC List.mem_cons_self hz hf) (by rfl) B_isinstance (by decide +kernel) (pa_cons (pv 0) (pa_cons (pe_glob (v := .ref C_NotRight) (by rfl) g_NotRight rfl) pa_nil))) (pa_cons (pe_callB (call_isQ XC List.mem_cons_self hz hf) (by rfl) B_isinstance (by decide +kernel) (pa_cons (pv 0) (pa_cons (pe_glob (v := .ref C_NotThere) (by rfl) g_NotThere rfl) pa_nil))) (pa_cons (pe_callB (call_isQ XC List.mem_cons_self hz hf) (by rfl) B_isinstance (by decide +kernel) (pa_cons (pv 0) (pa_cons (pe_glob (v := .ref C_NoAnswer) (by rfl) g_NoAnswer rfl) pa_nil))) (pa_cons (pe_callB (call_isQ XC List.mem_cons_self hz hf) (by rfl) B_isinstance (by decide +kernel) (pa_cons (pv 0) (pa_cons (pe_glob (v := .ref C_TooLarge) (by rfl) g_TooLarge rfl) pa_nil))) (pa_cons (pe_callB (call_isQ XC List.mem_cons_self hz hf) (by rfl) B_isinstance (by decide +kernel) (pa_cons (pv 0) (pa_cons (pe_glob (v := .ref C_Malformed) (by rfl) g_Malformed rfl) pa_nil))) pa_nil)))))))), ?_⟩
    cases hp with
    | cons h1 hp =>
      cases hp with
      | cons h2 hp =>
        cases hp with
        | cons h3 hp =>
          cases hp with
          | cons h4 hp =>
            cases hp with
            | cons h5 hp =>
              cases hp
              have v0 : ([some (V.ref p.1)] : L2.St)[0]? = some (some (V.ref p.1)) := rfl
              have one : ∀ (c : Addr) (b : Bool) (H : Hp) (Q : VK), PySem.W.kitOne K (.ref D) (.ref c) = some b → Q (.bl b) H → tCB (rIsE K D p.1) (tCons (tVar 0) (tCons (tC (.ref c)) tNil)) [some (V.ref p.1)] H Q := fun c b H Q hb q => ⟨_, v0, .ref c, .ref c, b, rfl, fun u r => r, hb, q⟩
              refine one _ _ _ _ h1 ?_
              refine one _ _ _ _ h2 ?_
              refine one _ _ _ _ h3 ?_
              refine one _ _ _ _ h4 ?_
              refine one _ _ _ _ h5 ?_
              exact ⟨szl _ (by show 5 ≤ 16777216; decide), hq⟩

end
end W02

set_option Elab.async false
set_option linter.all false
set_option maxRecDepth 100000
set_option maxHeartbeats 4000000
namespace W02
open PySem PySem.Spec PyProof.Rows L2 Z Y
def dLaw : DSp := fun rs L k _ => ∃ ns : List Int, rs = [.scr ns] ∧ ns.length ≤ 63 ∧ L = [] ∧ k (.dat (.bool true)) L
section
variable {P : Program} {w : World} {K : PySem.W.Frag} {mg : Str → Option Value} {base : Heap}
abbrev s_is_within : Stmt := top 7
theorem sc_is_within : FnScope ["value", "low", "high"] ["value", "low", "high"] (defScope s_is_within) := ⟨rfl, rfl, rfl, by decide +kernel, rfl, by decide +kernel, by decide +kernel⟩
abbrev ps_is_within : List Str := ["value", "low", "high"]
theorem ok_is_within {f : Addr} {fd : FuncData} (D : DefAt K mg "is_within" s_is_within ps_is_within f fd) (ca : Nat → Addr) (B_isinstance : mg "isinstance" = none) (B_int : mg "int" = none) (B_bool : mg "bool" = none) : Has P w K mg base 1 "is_within" ps_is_within (d_is_within ca) := by
  refine ⟨f, fd, D.g, D.F.kp, D.b, fn_z D.F sc_is_within (fun rs L k x h => ?_) fun cdv A outer s H E hr => ?_⟩
  · obtain ⟨_, _, _, rfl, _⟩ := h
    rfl
  · have nd := sc_is_within.nd
    refine ⟨_, (pss_one (ps_ret (pe_and (pe_callB call_isi (by rfl) B_isinstance (by decide +kernel) (pa_cons (pv 0) (pa_cons (pe_bltn (v := .ty "int") (by rfl) B_int (by decide +kernel) rfl) pa_nil))) (pe_and (pe_not (pe_callB call_isi (by rfl) B_isinstance (by decide +kernel) (pa_cons (pv 0) (pa_cons (pe_bltn (v := .ty "bool") (by rfl) B_bool (by decide +kernel) rfl) pa_nil)))) (pe_one (pe_chain op_leZ op_leZ (pv 1) (pv 0) (pv 2))))))), fun rs L q x h => ?_⟩
    obtain ⟨v_value, v_low, v_high, rfl, hq⟩ := h
    refine fin0 (ca := ca) (enc := eB) (Lf := fun _ => L) (X := fun _ L' => L' = L) (x := fun _ _ => False) (fun _ => Keeps.refl _) hq ?_
    refine (hv_grd fun g4 => ?_)
    exact (hv_ret (v := ((isD v_value "int") && ((!(isD v_value "bool")) && ((decide (v_low ≤ (tyI.f v_value))) && (decide ((tyI.f v_value) ≤ v_high)))))) (ev_and (ev_cb (ea_cons (ev_var rfl) (ea_cons ev_ty ea_nil)) fun _ q => cd_isi (by decide) q) fun h3 => (ev_and (ev_not (ev_cb (ea_cons (ev_var rfl) (ea_cons ev_ty ea_nil)) fun _ q => cd_isi (by decide) q)) fun h2 => (ev_chain (ev_var rfl) (ev_cast (ev_var rfl) (tyI.ok _ ((g4 h3) h2))) (fun _ q => od_le q) (fun h1 => (ev_var rfl)) fun _ q => od_le q))) (rf_dat (enc := eB) (Lf := fun _ => L) (r := ((isD v_value "int") && ((!(isD v_value "bool")) && ((decide (v_low ≤ (tyI.f v_value))) && (decide ((tyI.f v_value) ≤ v_high)))))) rfl (wk_of_sub (List.Sublist.refl _))))
abbrev s_are_ascending : Stmt := top 8
theorem sc_are_ascending : FnScope ["values", "one", "other"] ["values"] (defScope s_are_ascending) := ⟨rfl, rfl, rfl, by decide +kernel, rfl, by decide +kernel, by decide +kernel⟩
abbrev ps_are_ascending : List Str := ["values"]
theorem ok_are_ascending {f : Addr} {fd : FuncData} (D : DefAt K mg "are_ascending" s_are_ascending ps_are_ascending f fd) (ca : Nat → Addr) (B_all : mg "all" = none) (B_zip : mg "zip" = none) : Has P w K mg base 1 "are_ascending" ps_are_ascending (d_are_ascending ca) := by
  refine ⟨f, fd, D.g, D.F.kp, D.b, fn_z D.F sc_are_ascending (fun rs L k x h => ?_) fun cdv A outer s H E hr => ?_⟩
  · obtain ⟨_, rfl, _⟩ := h
    rfl
  · have nd := sc_are_ascending.nd
    refine ⟨_, (pss_one (ps_ret (pe_callB (cr_all rfl) (by rfl) B_all (by decide +kernel) (pa_cons (pe_lc (own := [("one", 1), ("other", 2)]) rfl nd (pi_zp (by rfl) B_zip (pa_cons (pv 0) (pa_cons (pe_slice sl_Z (pv 0) (po_some pe_int) po_none) pa_nil))) (blkOk_by (own := [("one", 1), ("other", 2)]) (N := ["values", "one", "other"]) (sc := defScope s_are_ascending) (by decide +kernel)) (fun _ _ _ _ _ => (pg_tupK (K := K) (n := 2) (by rfl) rfl (pgs_cons (pg_name (i := 1) nd rfl (by first | exact .inl rfl | exact .inr rfl)) (pgs_cons (pg_name (i := 2) nd rfl (by first | exact .inl rfl | exact .inr rfl)) pgs_nil)))) (fun _ _ _ _ _ => pts_nil) (fun _ _ _ _ _ => (pe_cmpR op_ltZ (pv 1) (pv 2) (nomark _)))) pa_nil)))), fun rs L q x h => ?_⟩
    obtain ⟨v_values, rfl, hq⟩ := h
    refine fin0 (ca := ca) (enc := eB) (Lf := fun _ => L) (X := fun _ L' => L' = L) (x := fun _ _ => False) (fun _ => Keeps.refl _) hq ?_
    refine (hv_grd fun g6 => ?_)
    exact (hv_ret (v := ((v_values.zip (Z.cutD v_values (some (1 : Int)) none)).all (fun x1 : (Int × Int) => (decide (x1.1 < x1.2))))) (ev_cb (ea_cons (ev_lcA (e := eB) (ei_zp (e := eI) (e2 := eI) (ev_var rfl) (ev_sl (ev_var rfl) (eo_some ev_int) eo_none fun _ q => sd_tupE q) seqT seqT rfl rfl) g6 (fun x1 m2 a4 p3 n5 => ⟨_, eg_tup2, (ev_op (ev_var rfl) (ev_var rfl) fun _ q => od_lt_int q)⟩) gown_tup2) ea_nil) fun _ q => cd_allE q) (rf_dat (enc := eB) (Lf := fun _ => L) (r := ((v_values.zip (Z.cutD v_values (some (1 : Int)) none)).all (fun x1 : (Int × Int) => (decide (x1.1 < x1.2))))) rfl (wk_of_sub (List.Sublist.refl _))))
abbrev s_are_lengths : Stmt := top 12
theorem sc_are_lengths : FnScope ["value", "length"] ["value"] (defScope s_are_lengths) := ⟨rfl, rfl, rfl, by decide +kernel, rfl, by decide +kernel, by decide +kernel⟩
abbrev ps_are_lengths : List Str := ["value"]
theorem ok_are_lengths {f : Addr} {fd : FuncData} (D : DefAt K mg "are_lengths" s_are_lengths ps_are_lengths f fd) (ca : Nat → Addr) (B_all : mg "all" = none) (B_isinstance : mg "isinstance" = none) (B_tuple : mg "tuple" = none) (B_len : mg "len" = none) {t_MOST_WAGONS_cuts : Tok} (c_MOST_WAGONS_cuts : mg "MOST_WAGONS_cuts" = some (.int 300 t_MOST_WAGONS_cuts)) {t_LONGEST_WAGON : Tok} (c_LONGEST_WAGON : mg "LONGEST_WAGON" = some (.int 1000 t_LONGEST_WAGON)) (H_is_within : Has P w K mg base 1 "is_within" ps_is_within (d_is_within ca)) : Has P w K mg base 2 "are_lengths" ps_are_lengths (d_are_lengths ca) := by
  obtain ⟨f_is_within, _, g_is_within, kp_is_within, b_is_within, G_is_within⟩ := id H_is_within
  refine ⟨f, fd, D.g, D.F.kp, D.b, fn_z D.F sc_are_lengths (fun rs L k x h => ?_) fun cdv A outer s H E hr => ?_⟩
  · obtain ⟨_, rfl, _⟩ := h
    rfl
  · have nd := sc_are_lengths.nd
    refine ⟨_, (pss_cons (ps_if (PW.pt (pw_or (pt_not (pt_val (pe_callB call_isi (by rfl) B_isinstance (by decide +kernel) (pa_cons (pv 0) (pa_cons (pe_bltn (v := .ty "tuple") (by rfl) B_tuple (by decide +kernel) rfl) pa_nil))))) (pw_or1 (pt_cmpR op_gtZ (pe_callB call_lenZ (by rfl) B_len (by decide +kernel) (pa_cons (pv 0) pa_nil)) (pe_glob (v := .int 300) (by rfl) c_MOST_WAGONS_cuts ⟨_, rfl⟩) (nomark _))))) (pss_one (ps_ret pe_bl)) pss_nil)
    (pss_one (ps_ret (pe_callB (cr_all rfl) (by rfl) B_all (by decide +kernel) (pa_cons (pe_lc (own := [("length", 1)]) rfl nd (pi_sq (pv 0)) (blkOk_by (own := [("length", 1)]) (N := ["value", "length"]) (sc := defScope s_are_lengths) (by decide +kernel)) (fun _ _ _ _ _ => (pg_name (i := 1) nd rfl (by first | exact .inl rfl | exact .inr rfl))) (fun _ _ _ _ _ => pts_nil) (fun _ _ _ _ _ => (pe_call G_is_within (hr.mono (by first | decide | omega)) (by rfl) g_is_within kp_is_within b_is_within .nil pass0 (pa_cons (pv 1) (pa_cons pe_int (pa_cons (pe_glob (v := .int 1000) (by rfl) c_LONGEST_WAGON ⟨_, rfl⟩) pa_nil)))))) pa_nil))))), fun rs L q x h => ?_⟩
    obtain ⟨v_value, rfl, hq⟩ := h
    refine fin0 (ca := ca) (enc := eB) (Lf := fun _ => L) (X := fun _ L' => L' = L) (x := fun _ _ => False) (fun _ => Keeps.refl _) hq ?_
    refine (hv_grd fun g10 => ?_)
    refine (hv_if1 (et_or (et_not (et_b (ev_cb (ea_cons (ev_var rfl) (ea_cons ev_ty ea_nil)) fun _ q => cd_isi (by decide) q))) fun h1 => (et_test (ev_op (ev_cb (ea_cons (ev_var rfl) ea_nil) fun _ q => cd_lenD (g10 h1) q) ev_int fun _ q => od_gt q))) (fun h2 => ?_) fun h2 => ?_)
    · exact (hv_ret (v := false) ev_bl (rf_dat (enc := eB) (Lf := fun _ => L) (r := false) rfl (wk_of_sub (List.Sublist.refl _))))
    · refine (hv_grd fun g9 => ?_)
      exact (hv_ret (v := ((itemsD v_value).all (fun x4 : PyData => (m_is_within x4 (1 : Int) (1000 : Int)).get))) (ev_cb (ea_cons (ev_lcA (e := eB) (ei_sq (ds := (itemsD v_value).map eD) (ev_var rfl) (by rw [← map_idD]; exact (seqD g9.1))) g9.2.2 (fun x4 m5 a7 p6 n8 => ⟨_, eg_name, (ev_call (ea_cons (ev_var rfl) (ea_cons ev_int (ea_cons ev_int ea_nil))) fun _ q => ⟨x4, (1 : Int), (1000 : Int), rfl, accR_ok (g9.2.1 x4 m5) q⟩)⟩) gown_name) ea_nil) fun _ q => cd_allE q) (rf_dat (enc := eB) (Lf := fun _ => L) (r := ((itemsD v_value).all (fun x4 : PyData => (m_is_within x4 (1 : Int) (1000 : Int)).get))) rfl (wk_of_sub (List.Sublist.refl _))))
abbrev s_check_both : Stmt := top 19
theorem sc_check_both : FnScope ["lengths", "siding"] ["lengths", "siding"] (defScope s_check_both) := ⟨rfl, rfl, rfl, by decide +kernel, rfl, by decide +kernel, by decide +kernel⟩
abbrev ps_check_both : List Str := ["lengths", "siding"]
theorem ok_check_both {f : Addr} {fd : FuncData} (D : DefAt K mg "check_both" s_check_both ps_check_both f fd) (ca : Nat → Addr) (B_len : mg "len" = none) {t_MOST_WAGONS_filling : Tok} (c_MOST_WAGONS_filling : mg "MOST_WAGONS_filling" = some (.int 60 t_MOST_WAGONS_filling)) {t_LONGEST : Tok} (c_LONGEST : mg "LONGEST" = some (.int 20000 t_LONGEST)) (E_NotRight : ErrAt K mg "NotRight" (ca 0)) (H_is_within : Has P w K mg base 1 "is_within" ps_is_within (d_is_within ca)) (H_are_lengths : Has P w K mg base 2 "are_lengths" ps_are_lengths (d_are_lengths ca)) : HasX P w K mg base 3 "check_both" ps_check_both (d_check_both ca) := by
  obtain ⟨f_is_within, _, g_is_within, kp_is_within, b_is_within, G_is_within⟩ := id H_is_within
  obtain ⟨f_are_lengths, _, g_are_lengths, kp_are_lengths, b_are_lengths, G_are_lengths⟩ := id H_are_lengths
  refine ⟨f, fd, D.g, D.F.kp, D.b, fn_zX D.F sc_check_both (fun rs L k x h => ?_) fun cdv A outer s H E hr => ?_⟩
  · obtain ⟨_, _, rfl, _⟩ := h
    rfl
  · have nd := sc_check_both.nd
    have tk : Takes (cxOf (L2.CX P w) P w K mg base ["lengths", "siding"] "check_both" (defScope s_check_both) f cdv A outer s H E) (fun cls d _ H => E cls d H) := takes_of rfl rfl rfl rfl
    refine ⟨_, (pss_cons (ps_if (PW.pt (pw_or (pt_not (pt_val (pe_call G_are_lengths (hr.mono (by first | decide | omega)) (by rfl) g_are_lengths kp_are_lengths b_are_lengths .nil pass0 (pa_cons (pv 0) pa_nil)))) (pw_or1 (pt_cmpR op_gtZ (pe_callB call_lenZ (by rfl) B_len (by decide +kernel) (pa_cons (pv 0) pa_nil)) (pe_glob (v := .int 60) (by rfl) c_MOST_WAGONS_filling ⟨_, rfl⟩) (nomark _))))) (pss_one (ps_raise rfl tk (pmk_own PySem.F.excBase_ValueError E_NotRight.x E_NotRight.g E_NotRight.k (raises_own E_NotRight.s1 E_NotRight.s2) (by rfl)))) pss_nil)
    (pss_one (ps_if (pt_not (pt_val (pe_call G_is_within (hr.mono (by first | decide | omega)) (by rfl) g_is_within kp_is_within b_is_within .nil pass0 (pa_cons (pv 1) (pa_cons pe_int (pa_cons (pe_glob (v := .int 20000) (by rfl) c_LONGEST ⟨_, rfl⟩) pa_nil)))))) (pss_one (ps_raise rfl tk (pmk_own PySem.F.excBase_ValueError E_NotRight.x E_NotRight.g E_NotRight.k (raises_own E_NotRight.s1 E_NotRight.s2) (by rfl)))) pss_nil))), fun rs L q x h => ?_⟩
    obtain ⟨v_lengths, v_siding, rfl, hq⟩ := h
    refine finXN (ca := ca) hq ?_
    refine (hv_grd fun g8 => ?_)
    refine (hv_if1 (et_or (et_not (et_b (ev_call (ea_cons (ev_var rfl) ea_nil) fun _ q => ⟨v_lengths, rfl, accR_ok g8.1 q⟩))) fun h1 => (et_test (ev_op (ev_cb (ea_cons (ev_var rfl) ea_nil) fun _ q => cd_lenD (g8.2 h1) q) ev_int fun _ q => od_gt q))) (fun h2 => ?_) fun h2 => ?_)
    · exact (hv_raise rfl rfl)
    · refine (hv_grd fun g7 => ?_)
      refine (hv_ifL (et_not (et_b (ev_call (ea_cons (ev_var rfl) (ea_cons ev_int (ea_cons ev_int ea_nil))) fun _ q => ⟨v_siding, (0 : Int), (20000 : Int), rfl, accR_ok g7 q⟩))) (fun h4 => ?_) fun h4 => ?_)
      · exact (hv_raise rfl rfl)
      · exact (hv_nx (wk_of_sub (List.Sublist.refl _)))
abbrev s_counts_by : Stmt := top 20
theorem sc_counts_by : FnScope ["lengths", "siding", "found", "length", "more", "whole", "count"] ["lengths", "siding"] (defScope s_counts_by) := ⟨rfl, rfl, rfl, by decide +kernel, rfl, by decide +kernel, by decide +kernel⟩
abbrev ps_counts_by : List Str := ["lengths", "siding"]
theorem ok_counts_by {f : Addr} {fd : FuncData} (D : DefAt K mg "counts_by" s_counts_by ps_counts_by f fd) (ca : Nat → Addr) (B_dict : mg "dict" = none) : Has P w K mg base 1 "counts_by" ps_counts_by (d_counts_by ca) := by
  refine ⟨f, fd, D.g, D.F.kp, D.b, fn_z D.F sc_counts_by (fun rs L k x h => ?_) fun cdv A outer s H E hr => ?_⟩
  · obtain ⟨_, _, rfl, _⟩ := h
    rfl
  · have nd := sc_counts_by.nd
    refine ⟨_, (pss_cons (ps_set (i := 2) nd rfl (by first | exact .inl rfl | exact .inr rfl) (pe_disp (pps_cons pe_int pe_int pps_nil) rfl rfl (by simp) (by decide)))
    (pss_cons (ps_for PassesOwn.never rfl (pi_sq (pv 0)) (pg_name (i := 3) nd rfl (by first | exact .inl rfl | exact .inr rfl))
      (pss_cons (ps_set (i := 4) nd rfl (by first | exact .inl rfl | exact .inr rfl) (pe_callTy call_dictY (by rfl) B_dict (by decide +kernel) (pa_cons (pv 2) pa_nil)))
      (pss_cons (ps_lockO (ps_for PassesOwn.never rfl (pi_items (pv 2)) (pg_tup (n := 2) rfl (pgs_cons (pg_name (i := 5) nd rfl (by first | exact .inl rfl | exact .inr rfl)) (pgs_cons (pg_name (i := 6) nd rfl (by first | exact .inl rfl | exact .inr rfl)) pgs_nil)))
        (pss_one (ps_if (pt_cmpR op_leZ (pe_op op_addZ (pv 5) (pv 3)) (pv 1) (nomark _)) (pss_one (ps_asg (pe_op op_addZ (pe_dget2 (u1 hr.units) (pv 4) (pe_op op_addZ (pv 5) (pv 3)) pe_int ⟨by rfl, by rfl, by rfl, by rfl⟩) (pv 6)) (pg_sub (pv 4) (pe_op op_addZ (pv 5) (pv 3)) (set_M hr.units)))) pss_nil))))
      (pss_one (ps_set (i := 2) nd rfl (by first | exact .inl rfl | exact .inr rfl) (pv 4))))))
    (pss_one (ps_ret (pv 2))))), fun rs L q x h => ?_⟩
    obtain ⟨v_lengths, v_siding, rfl, hq⟩ := h
    refine fin0 (ca := ca) (enc := (eM (κ := Int) eI)) (Lf := fun _ => L) (X := fun _ L' => L' = L) (x := fun _ _ => False) (fun _ => Keeps.refl _) hq ?_
    refine (hv_ownMC (κ := Int) (e := eI) (fun k q => ewm_disp (kvs := [(KeyY.kk (0 : Int), eI (1 : Int))]) (.cons (fun L => ev_keyI ev_int) (fun L => ev_int) .nil) (by decide) k q) fun p_found v_found nin_p_found => ?_)
    refine (hv_wk (M2 := L) (ε' := [some (.dat ((eT eI) v_lengths)), some (.dat (eI v_siding)), some (.dat ((eM (κ := Int) eI) v_found)), none, none, none, none]) (wk_of_sub (by exact List.sublist_append_left _ _)) (evwk_mk (.cons (.mk (.dat _)) (.cons (.mk (.dat _)) (.cons (.mk (frzM (e := eI) plusM_mem (nin_of nin_p_found (by simp [plus, plusM, Led.ks])))) (.cons (.no _) (.cons (.no _) (.cons (.no _) (.cons (.no _) .nil)))))))) ?_)
    refine (hv_bind (fun (s : (List (Int × Int))) ε' L' => match s with | v_found => ∃ (u3 u4 u5 u6 : Option Rs), ε' = [some (.dat ((eT eI) v_lengths)), some (.dat (eI v_siding)), some (.dat ((eM (κ := Int) eI) v_found)), u3, u4, u5, u6] ∧ L = L') (hv_for (fun (s : (List (Int × Int))) ε' L' => match s with | v_found => ∃ (u3 u4 u5 u6 : Option Rs), ε' = [some (.dat ((eT eI) v_lengths)), some (.dat (eI v_siding)), some (.dat ((eM (κ := Int) eI) v_found)), u3, u4, u5, u6] ∧ L = L') (xs := v_lengths) (g0 := eI) (f := (fun (x9 : Int) (s : (List (Int × Int))) => match s with | v_found => (lt v_found fun v_more : (List (Int × Int)) => (Ctl.bind (noEx (forC v_found (v_more : (List (Int × Int))) (fun (x11 : (Int × Int)) (s : (List (Int × Int))) => match s with | v_more => (bif (decide ((x11.1 + x9) ≤ v_siding)) then (grd (v_more.length < sizeLine) (lt (putA v_more (x11.1 + x9) ((getD' v_more (x11.1 + x9) (0 : Int)) + x11.2)) fun v_more : (List (Int × Int)) => (.nx v_more))) else (.nx v_more)))) : Ctl ((List (Int × Int))) _ _) fun v_more => (lt v_more fun v_found : (List (Int × Int)) => (.nx v_found)))))) (ei_sq (ev_var rfl) seqT) ⟨_, _, _, _, rfl, rfl⟩ ?_) ?_)
    · rintro x9 v_found _ _ ⟨u3, u4, u5, u6, rfl, rfl⟩
      refine ⟨_, eg_name, ?_⟩
      refine (hv_ownMC (κ := Int) (e := eI) (ewm_dict (ev_var rfl) dctD) fun p_more v_more nin_p_more => ?_)
      refine (hv_bind (fun (s : (List (Int × Int))) ε' L' => match s with | v_more => ∃ (u5 u6 : Option Rs), ε' = [some (.dat ((eT eI) v_lengths)), some (.dat (eI v_siding)), some (.dat ((eM (κ := Int) eI) v_found)), some (.dat (eI x9)), some (.own p_more), u5, u6] ∧ (plusM L p_more (kvM eI v_more)) = L') (hv_forD (fun (s : (List (Int × Int))) ε' L' => match s with | v_more => ∃ (u5 u6 : Option Rs), ε' = [some (.dat ((eT eI) v_lengths)), some (.dat (eI v_siding)), some (.dat ((eM (κ := Int) eI) v_found)), some (.dat (eI x9)), some (.own p_more), u5, u6] ∧ (plusM L p_more (kvM eI v_more)) = L') (xs := v_found) (ys := v_found) (g0 := (eP2 eI eI)) (f' := (fun (x11 : (Int × Int)) (s : (List (Int × Int))) => match s with | v_more => (bif (decide ((x11.1 + x9) ≤ v_siding)) then (grd (v_more.length < sizeLine) (lt (putA v_more (x11.1 + x9) ((getD' v_more (x11.1 + x9) (0 : Int)) + x11.2)) fun v_more : (List (Int × Int)) => (.nx v_more))) else (.nx v_more)))) walks_items rfl (items_map (fun _ => rfl) _) ⟨_, _, rfl, rfl⟩ ?_) ?_)
      · rintro x11 v_more _ _ ⟨u5, u6, rfl, rfl⟩
        refine ⟨_, eg_tup2, ?_⟩
        refine (hv_ifL (et_test (ev_op (ev_op (ev_var rfl) (ev_var rfl) fun _ q => od_add_int q) (ev_var rfl) fun _ q => od_le q)) (fun h13 => ?_) fun h13 => ?_)
        · refine (hv_grd fun g15 => ?_)
          refine (hv_one ?_)
          refine (hv_setM (e := eI) (Lf := fun l' => (plusM L p_more (kvM eI l'))) (ev_op (ev_getA (e := eI) (ev_var rfl) (dctO plusM_mem) (ev_keyI (ev_op (ev_var rfl) (ev_var rfl) fun _ q => od_add_int q)) ev_int) (ev_var rfl) fun _ q => od_add_int q) (ev_var rfl) (ev_keyI (ev_op (ev_var rfl) (ev_var rfl) fun _ q => od_add_int q)) plusM_mem g15 (fun l' => by rw [up_plusM (nin_of nin_p_more (by simp [plus, plusM, Led.ks]))]) fun v_more => ?_)
          exact (hv_nx ⟨_, _, rfl, rfl⟩)
        · exact (hv_nx ⟨_, _, rfl, rfl⟩)
      · rintro v_more _ _ ⟨u5, u6, rfl, rfl⟩
        refine (hv_wk (M2 := L) (ε' := [some (.dat ((eT eI) v_lengths)), some (.dat (eI v_siding)), some (.dat ((eM (κ := Int) eI) v_found)), some (.dat (eI x9)), some (.dat ((eM (κ := Int) eI) v_more)), none, none]) (wk_of_sub (by exact List.sublist_append_left _ _)) (evwk_mk (.cons (.mk (.dat _)) (.cons (.mk (.dat _)) (.cons (.mk (.dat _)) (.cons (.mk (.dat _)) (.cons (.mk (frzM (e := eI) plusM_mem (nin_of nin_p_more (by simp [plus, plusM, Led.ks])))) (.cons (.no _) (.cons (.no _) .nil)))))))) ?_)
        refine (hv_one ?_)
        refine (hv_set (e := (eM (κ := Int) eI)) (ev_var rfl) fun v_found => ?_)
        exact (hv_nx ⟨_, _, _, _, rfl, rfl⟩)
    · rintro v_found _ _ ⟨u3, u4, u5, u6, rfl, rfl⟩
      exact (hv_ret (v := v_found) (ev_var rfl) (rf_dat (enc := (eM (κ := Int) eI)) (Lf := fun _ => L) (r := v_found) rfl (wk_of_sub (List.Sublist.refl _))))
abbrev s_marks_by : Stmt := top 21
theorem sc_marks_by : FnScope ["lengths", "siding", "room", "found", "length"] ["lengths", "siding"] (defScope s_marks_by) := ⟨rfl, rfl, rfl, by decide +kernel, rfl, by decide +kernel, by decide +kernel⟩
abbrev ps_marks_by : List Str := ["lengths", "siding"]
theorem ok_marks_by {f : Addr} {fd : FuncData} (D : DefAt K mg "marks_by" s_marks_by ps_marks_by f fd) (ca : Nat → Addr) : Has P w K mg base 1 "marks_by" ps_marks_by (d_marks_by ca) := by
  refine ⟨f, fd, D.g, D.F.kp, D.b, fn_z D.F sc_marks_by (fun rs L k x h => ?_) fun cdv A outer s H E hr => ?_⟩
  · obtain ⟨_, _, rfl, _⟩ := h
    rfl
  · have nd := sc_marks_by.nd
    refine ⟨_, (pss_cons (ps_set (i := 2) nd rfl (by first | exact .inl rfl | exact .inr rfl) (pe_op op_sub (pe_op op_shlW pe_int (pe_op op_addZ (pv 1) pe_int)) pe_int))
    (pss_cons (ps_set (i := 3) nd rfl (by first | exact .inl rfl | exact .inr rfl) (pe_lst (pa_cons pe_int pa_nil)))
    (pss_cons (ps_for PassesOwn.never rfl (pi_sq (pv 0)) (pg_name (i := 4) nd rfl (by first | exact .inl rfl | exact .inr rfl))
      (pss_one (ps_expr (pe_bm PySem.F.plainAttrs_list PySem.F.slot_list_append PySem.F.type_list_append mt_append (pv 3) (pa_cons (pe_op op_and (pe_op op_or (pe_ix ix_seq (pv 3) (pe_un un_neg pe_int) (fun _ _ => rfl)) (pe_op op_shlW (pe_ix ix_seq (pv 3) (pe_un un_neg pe_int) (fun _ _ => rfl)) (pv 4))) (pv 2)) pa_nil)))))
    (pss_one (ps_ret (pv 3)))))), fun rs L q x h => ?_⟩
    obtain ⟨v_lengths, v_siding, rfl, hq⟩ := h
    refine fin0 (ca := ca) (enc := (eL eI)) (Lf := fun _ => L) (X := fun _ L' => L' = L) (x := fun _ _ => False) (fun _ => Keeps.refl _) hq ?_
    refine (hv_grd fun g4 => ?_)
    refine (hv_set (e := eI) (ev_op (ev_op ev_int (ev_op (ev_var rfl) ev_int fun _ q => od_add_int q) fun _ q => od_shl g4 q) ev_int fun _ q => od_sub q) fun v_room => ?_)
    refine (hv_own (e := eI) (ew_lst (ds := ([(1 : Int)] : List Int).map eI) (ea_cons ev_int ea_nil) rfl (szl _ (Nat.le_trans (Nat.le_of_eq (show _ = 1 from rfl)) (by decide)))) fun p_found v_found nin_p_found => ?_)
    refine (hv_bind (fun (s : (List Int)) ε' L' => match s with | v_found => ∃ (u4 : Option Rs), ε' = [some (.dat ((eT eI) v_lengths)), some (.dat (eI v_siding)), some (.dat (eI v_room)), some (.own p_found), u4] ∧ (plus L p_found (v_found.map eI)) = L') (hv_for (fun (s : (List Int)) ε' L' => match s with | v_found => ∃ (u4 : Option Rs), ε' = [some (.dat ((eT eI) v_lengths)), some (.dat (eI v_siding)), some (.dat (eI v_room)), some (.own p_found), u4] ∧ (plus L p_found (v_found.map eI)) = L') (xs := v_lengths) (g0 := eI) (f := (fun (x1 : Int) (s : (List Int)) => match s with | v_found => (grd (okIx v_found (-1 : Int) ∧ CShl (ix v_found (-1 : Int)) x1 ∧ v_found.length < sizeLine) (lt (v_found ++ [(Builtin.bitAnd (Builtin.bitOr (ix v_found (-1 : Int)) ((ix v_found (-1 : Int)) * 2 ^ (x1).toNat)) v_room)]) fun v_found : List Int => (.nx v_found))))) (ei_sq (ev_var rfl) seqT) ⟨_, rfl, rfl⟩ ?_) ?_)
    · rintro x1 v_found _ _ ⟨u4, rfl, rfl⟩
      refine ⟨_, eg_name, ?_⟩
      refine (hv_grd fun g3 => ?_)
      refine (hv_one ?_)
      refine (hv_appE (e := eI) (Lf := fun l' => (plus L p_found (l'.map eI))) rfl (ev_op (ev_op (ev_op (ev_var rfl) (ev_un ev_int fun _ q => cd_neg q) fun _ q => od_ixO (e := eI) plus_mem g3.1 q) (ev_op (ev_op (ev_var rfl) (ev_un ev_int fun _ q => cd_neg q) fun _ q => od_ixO (e := eI) plus_mem g3.1 q) (ev_var rfl) fun _ q => od_shl g3.2.1 q) fun _ q => od_bor q) (ev_var rfl) fun _ q => od_band q) plus_mem g3.2.2 (fun l' => by rw [up_plus (nin_of nin_p_found (by simp [plus, plusM, Led.ks]))]) fun v_found => ?_)
      exact (hv_nx ⟨_, rfl, rfl⟩)
    · rintro v_found _ _ ⟨u4, rfl, rfl⟩
      refine (hv_wk (M2 := L) (ε' := [some (.dat ((eT eI) v_lengths)), some (.dat (eI v_siding)), some (.dat (eI v_room)), some (.dat ((eL eI) v_found)), none]) (wk_of_sub (by exact List.sublist_append_left _ _)) (evwk_mk (.cons (.mk (.dat _)) (.cons (.mk (.dat _)) (.cons (.mk (.dat _)) (.cons (.mk (.frz plus_mem (nin_of nin_p_found (by simp [plus, plusM, Led.ks])))) (.cons (.no _) .nil)))))) ?_)
      exact (hv_ret (v := v_found) (ev_var rfl) (rf_dat (enc := (eL eI)) (Lf := fun _ => L) (r := v_found) rfl (wk_of_sub (List.Sublist.refl _))))
abbrev s_has_sum : Stmt := top 22
theorem sc_has_sum : FnScope ["marks", "whole"] ["marks", "whole"] (defScope s_has_sum) := ⟨rfl, rfl, rfl, by decide +kernel, rfl, by decide +kernel, by decide +kernel⟩
abbrev ps_has_sum : List Str := ["marks", "whole"]
theorem ok_has_sum {f : Addr} {fd : FuncData} (D : DefAt K mg "has_sum" s_has_sum ps_has_sum f fd) (ca : Nat → Addr) : Has P w K mg base 1 "has_sum" ps_has_sum (d_has_sum ca) := by
  refine ⟨f, fd, D.g, D.F.kp, D.b, fn_z D.F sc_has_sum (fun rs L k x h => ?_) fun cdv A outer s H E hr => ?_⟩
  · obtain ⟨_, _, rfl, _⟩ := h
    rfl
  · have nd := sc_has_sum.nd
    refine ⟨_, (pss_one (ps_ret (pe_and (pe_cmpR op_geZ (pv 1) pe_int (nomark _)) (pe_one (pe_cmpR (op_eqZ hr.units) (pe_op op_and (pe_op op_shr (pv 0) (pv 1)) pe_int) pe_int (nomark _)))))), fun rs L q x h => ?_⟩
    obtain ⟨v_marks, v_whole, rfl, hq⟩ := h
    refine fin0 (ca := ca) (enc := eB) (Lf := fun _ => L) (X := fun _ L' => L' = L) (x := fun _ _ => False) (fun _ => Keeps.refl _) hq ?_
    refine (hv_grd fun g2 => ?_)
    exact (hv_ret (v := ((decide ((0 : Int) ≤ v_whole)) && (((Builtin.bitAnd (v_marks / 2 ^ (v_whole).toNat) (1 : Int)) == (1 : Int))))) (ev_and (ev_op (ev_var rfl) ev_int fun _ q => od_ge q) fun h1 => (ev_op (ev_op (ev_op (ev_var rfl) (ev_var rfl) fun _ q => od_shr (g2 h1) q) ev_int fun _ q => od_band q) ev_int fun _ q => od_eq_int q)) (rf_dat (enc := eB) (Lf := fun _ => L) (r := ((decide ((0 : Int) ≤ v_whole)) && (((Builtin.bitAnd (v_marks / 2 ^ (v_whole).toNat) (1 : Int)) == (1 : Int))))) rfl (wk_of_sub (List.Sublist.refl _))))
abbrev s_sums_in : Stmt := top 23
theorem sc_sums_in : FnScope ["marks", "siding", "whole"] ["marks", "siding"] (defScope s_sums_in) := ⟨rfl, rfl, rfl, by decide +kernel, rfl, by decide +kernel, by decide +kernel⟩
abbrev ps_sums_in : List Str := ["marks", "siding"]
theorem ok_sums_in {f : Addr} {fd : FuncData} (D : DefAt K mg "sums_in" s_sums_in ps_sums_in f fd) (ca : Nat → Addr) (B_range : mg "range" = none) (H_has_sum : Has P w K mg base 1 "has_sum" ps_has_sum (d_has_sum ca)) : Has P w K mg base 2 "sums_in" ps_sums_in (d_sums_in ca) := by
  obtain ⟨f_has_sum, _, g_has_sum, kp_has_sum, b_has_sum, G_has_sum⟩ := id H_has_sum
  refine ⟨f, fd, D.g, D.F.kp, D.b, fn_z D.F sc_sums_in (fun rs L k x h => ?_) fun cdv A outer s H E hr => ?_⟩
  · obtain ⟨_, _, rfl, _⟩ := h
    rfl
  · have nd := sc_sums_in.nd
    refine ⟨_, (pss_one (ps_ret (pe_lc (own := [("whole", 2)]) rfl nd (pi_range1 (by rfl) B_range (pa_cons (pe_op op_addZ (pv 1) pe_int) pa_nil)) (blkOk_by (own := [("whole", 2)]) (N := ["marks", "siding", "whole"]) (sc := defScope s_sums_in) (by decide +kernel)) (fun _ _ _ _ _ => (pg_name (i := 2) nd rfl (by first | exact .inl rfl | exact .inr rfl))) (fun _ _ _ _ _ => (pts_one (pt_val (pe_call G_has_sum (hr.mono (by first | decide | omega)) (by rfl) g_has_sum kp_has_sum b_has_sum .nil pass0 (pa_cons (pv 0) (pa_cons (pv 2) pa_nil)))))) (fun _ _ _ _ _ => (pv 2))))), fun rs L q x h => ?_⟩
    obtain ⟨v_marks, v_siding, rfl, hq⟩ := h
    refine fin0 (ca := ca) (enc := (eL eI)) (Lf := fun _ => L) (X := fun _ L' => L' = L) (x := fun _ _ => False) (fun _ => Keeps.refl _) hq ?_
    refine (hv_grd fun g7 => ?_)
    exact (hv_ret (v := (((rngI 0 (v_siding + (1 : Int))).filter fun x1 : Int => (m_has_sum v_marks x1).get).map fun x1 : Int => x1)) (ev_lc (e := eI) (ei_range1 (ev_op (ev_var rfl) ev_int fun _ q => od_add_int q) g7.1) g7.2.2 (fun x1 m2 a4 p3 n5 => ⟨_, eg_name, (et_b (ev_call (ea_cons (ev_var rfl) (ea_cons (ev_var rfl) ea_nil)) fun _ q => ⟨v_marks, x1, rfl, accR_ok (g7.2.1 x1 m2) q⟩)), fun h6 => (ev_var rfl)⟩) gown_name) (rf_dat (enc := (eL eI)) (Lf := fun _ => L) (r := (((rngI 0 (v_siding + (1 : Int))).filter fun x1 : Int => (m_has_sum v_marks x1).get).map fun x1 : Int => x1)) rfl (wk_of_sub (List.Sublist.refl _))))
abbrev s_sums_up_to : Stmt := top 24
theorem sc_sums_up_to : FnScope ["lengths", "siding"] ["lengths", "siding"] (defScope s_sums_up_to) := ⟨rfl, rfl, rfl, by decide +kernel, rfl, by decide +kernel, by decide +kernel⟩
abbrev ps_sums_up_to : List Str := ["lengths", "siding"]
theorem ok_sums_up_to {f : Addr} {fd : FuncData} (D : DefAt K mg "sums_up_to" s_sums_up_to ps_sums_up_to f fd) (ca : Nat → Addr) (H_check_both : HasX P w K mg base 3 "check_both" ps_check_both (d_check_both ca)) (H_sums_in : Has P w K mg base 2 "sums_in" ps_sums_in (d_sums_in ca)) (H_marks_by : Has P w K mg base 1 "marks_by" ps_marks_by (d_marks_by ca)) : HasX P w K mg base 4 "sums_up_to" ps_sums_up_to (d_sums_up_to ca) := by
  obtain ⟨f_check_both, _, g_check_both, kp_check_both, b_check_both, G_check_both⟩ := id H_check_both
  obtain ⟨_, _, g0_check_both, kp0_check_both, b0_check_both, G0_check_both⟩ := has0 H_check_both
  obtain ⟨f_sums_in, _, g_sums_in, kp_sums_in, b_sums_in, G_sums_in⟩ := id H_sums_in
  obtain ⟨f_marks_by, _, g_marks_by, kp_marks_by, b_marks_by, G_marks_by⟩ := id H_marks_by
  refine ⟨f, fd, D.g, D.F.kp, D.b, fn_zX D.F sc_sums_up_to (fun rs L k x h => ?_) fun cdv A outer s H E hr => ?_⟩
  · obtain ⟨_, _, rfl, _⟩ := h
    rfl
  · have nd := sc_sums_up_to.nd
    have tk : Takes (cxOf (L2.CX P w) P w K mg base ["lengths", "siding"] "sums_up_to" (defScope s_sums_up_to) f cdv A outer s H E) (fun cls d _ H => E cls d H) := takes_of rfl rfl rfl rfl
    refine ⟨_, (pss_cons (ps_expr (pe_callS G_check_both (hr.mono (by first | decide | omega)) (by rfl) g_check_both kp_check_both b_check_both (fun σ => passAt tk σ) (pa_cons (pv 0) (pa_cons (pv 1) pa_nil))))
    (pss_one (ps_ret (pe_call G_sums_in (hr.mono (by first | decide | omega)) (by rfl) g_sums_in kp_sums_in b_sums_in .nil pass0 (pa_cons (pe_ix ix_seq (pe_call G_marks_by (hr.mono (by first | decide | omega)) (by rfl) g_marks_by kp_marks_by b_marks_by .nil pass0 (pa_cons (pv 0) (pa_cons (pv 1) pa_nil))) (pe_un un_neg pe_int) (fun _ _ => rfl)) (pa_cons (pv 1) pa_nil)))))), fun rs L q x h => ?_⟩
    obtain ⟨v_lengths, v_siding, rfl, hq⟩ := h
    refine finX (ca := ca) (enc := (eL eI)) (Lf := fun _ => L) (fun _ => Keeps.refl _) hq ?_
    refine (hv_callD (enc := eN) (ea_cons (ev_var rfl) (ea_cons (ev_var rfl) ea_nil)) (fun _ _ q => ⟨v_lengths, (eI v_siding), rfl, q⟩) rfl fun _ => ?_)
    refine (hv_grd fun g2 => ?_)
    refine (hv_narrow (tyT tyI) (fun z => [some (.dat (eD z)), some (.dat (eI v_siding))]) g2 fun v_lengths => ?_)
    refine (hv_grd fun g1 => ?_)
    exact (hv_ret (v := (m_sums_in (ix (m_marks_by v_lengths v_siding).get (-1 : Int)) v_siding).get) (ev_call (ea_cons (ev_op (ev_call (ea_cons (ev_var rfl) (ea_cons (ev_var rfl) ea_nil)) fun _ q => ⟨v_lengths, v_siding, rfl, accR_ok g1.1 q⟩) (ev_un ev_int fun _ q => cd_neg q) fun _ q => od_ixL (e := eI) g1.2.1 q) (ea_cons (ev_var rfl) ea_nil)) fun _ q => ⟨(ix (m_marks_by v_lengths v_siding).get (-1 : Int)), v_siding, rfl, accR_ok g1.2.2 q⟩) (rf_dat (enc := (eL eI)) (Lf := fun _ => L) (r := (m_sums_in (ix (m_marks_by v_lengths v_siding).get (-1 : Int)) v_siding).get) rfl (wk_of_sub (List.Sublist.refl _))))
abbrev s_best_by : Stmt := top 25
theorem sc_best_by : FnScope ["lengths", "siding"] ["lengths", "siding"] (defScope s_best_by) := ⟨rfl, rfl, rfl, by decide +kernel, rfl, by decide +kernel, by decide +kernel⟩
abbrev ps_best_by : List Str := ["lengths", "siding"]
theorem ok_best_by {f : Addr} {fd : FuncData} (D : DefAt K mg "best_by" s_best_by ps_best_by f fd) (ca : Nat → Addr) (H_sums_in : Has P w K mg base 2 "sums_in" ps_sums_in (d_sums_in ca)) (H_marks_by : Has P w K mg base 1 "marks_by" ps_marks_by (d_marks_by ca)) : Has P w K mg base 3 "best_by" ps_best_by (d_best_by ca) := by
  obtain ⟨f_sums_in, _, g_sums_in, kp_sums_in, b_sums_in, G_sums_in⟩ := id H_sums_in
  obtain ⟨f_marks_by, _, g_marks_by, kp_marks_by, b_marks_by, G_marks_by⟩ := id H_marks_by
  refine ⟨f, fd, D.g, D.F.kp, D.b, fn_z D.F sc_best_by (fun rs L k x h => ?_) fun cdv A outer s H E hr => ?_⟩
  · obtain ⟨_, _, rfl, _⟩ := h
    rfl
  · have nd := sc_best_by.nd
    refine ⟨_, (pss_one (ps_ret (pe_ix ix_seq (pe_call G_sums_in (hr.mono (by first | decide | omega)) (by rfl) g_sums_in kp_sums_in b_sums_in .nil pass0 (pa_cons (pe_ix ix_seq (pe_call G_marks_by (hr.mono (by first | decide | omega)) (by rfl) g_marks_by kp_marks_by b_marks_by .nil pass0 (pa_cons (pv 0) (pa_cons (pv 1) pa_nil))) (pe_un un_neg pe_int) (fun _ _ => rfl)) (pa_cons (pv 1) pa_nil))) (pe_un un_neg pe_int) (fun _ _ => rfl)))), fun rs L q x h => ?_⟩
    obtain ⟨v_lengths, v_siding, rfl, hq⟩ := h
    refine fin0 (ca := ca) (enc := eI) (Lf := fun _ => L) (X := fun _ L' => L' = L) (x := fun _ _ => False) (fun _ => Keeps.refl _) hq ?_
    refine (hv_grd fun g1 => ?_)
    exact (hv_ret (v := (ix (m_sums_in (ix (m_marks_by v_lengths v_siding).get (-1 : Int)) v_siding).get (-1 : Int))) (ev_op (ev_call (ea_cons (ev_op (ev_call (ea_cons (ev_var rfl) (ea_cons (ev_var rfl) ea_nil)) fun _ q => ⟨v_lengths, v_siding, rfl, accR_ok g1.1 q⟩) (ev_un ev_int fun _ q => cd_neg q) fun _ q => od_ixL (e := eI) g1.2.1 q) (ea_cons (ev_var rfl) ea_nil)) fun _ q => ⟨(ix (m_marks_by v_lengths v_siding).get (-1 : Int)), v_siding, rfl, accR_ok g1.2.2.1 q⟩) (ev_un ev_int fun _ q => cd_neg q) fun _ q => od_ixL (e := eI) g1.2.2.2 q) (rf_dat (enc := eI) (Lf := fun _ => L) (r := (ix (m_sums_in (ix (m_marks_by v_lengths v_siding).get (-1 : Int)) v_siding).get (-1 : Int))) rfl (wk_of_sub (List.Sublist.refl _))))
abbrev s_fullest_length : Stmt := top 26
theorem sc_fullest_length : FnScope ["lengths", "siding"] ["lengths", "siding"] (defScope s_fullest_length) := ⟨rfl, rfl, rfl, by decide +kernel, rfl, by decide +kernel, by decide +kernel⟩
abbrev ps_fullest_length : List Str := ["lengths", "siding"]
theorem ok_fullest_length {f : Addr} {fd : FuncData} (D : DefAt K mg "fullest_length" s_fullest_length ps_fullest_length f fd) (ca : Nat → Addr) (H_check_both : HasX P w K mg base 3 "check_both" ps_check_both (d_check_both ca)) (H_best_by : Has P w K mg base 3 "best_by" ps_best_by (d_best_by ca)) : HasX P w K mg base 4 "fullest_length" ps_fullest_length (d_fullest_length ca) := by
  obtain ⟨f_check_both, _, g_check_both, kp_check_both, b_check_both, G_check_both⟩ := id H_check_both
  obtain ⟨_, _, g0_check_both, kp0_check_both, b0_check_both, G0_check_both⟩ := has0 H_check_both
  obtain ⟨f_best_by, _, g_best_by, kp_best_by, b_best_by, G_best_by⟩ := id H_best_by
  refine ⟨f, fd, D.g, D.F.kp, D.b, fn_zX D.F sc_fullest_length (fun rs L k x h => ?_) fun cdv A outer s H E hr => ?_⟩
  · obtain ⟨_, _, rfl, _⟩ := h
    rfl
  · have nd := sc_fullest_length.nd
    have tk : Takes (cxOf (L2.CX P w) P w K mg base ["lengths", "siding"] "fullest_length" (defScope s_fullest_length) f cdv A outer s H E) (fun cls d _ H => E cls d H) := takes_of rfl rfl rfl rfl
    refine ⟨_, (pss_cons (ps_expr (pe_callS G_check_both (hr.mono (by first | decide | omega)) (by rfl) g_check_both kp_check_both b_check_both (fun σ => passAt tk σ) (pa_cons (pv 0) (pa_cons (pv 1) pa_nil))))
    (pss_one (ps_ret (pe_call G_best_by (hr.mono (by first | decide | omega)) (by rfl) g_best_by kp_best_by b_best_by .nil pass0 (pa_cons (pv 0) (pa_cons (pv 1) pa_nil)))))), fun rs L q x h => ?_⟩
    obtain ⟨v_lengths, v_siding, rfl, hq⟩ := h
    refine finX (ca := ca) (enc := eI) (Lf := fun _ => L) (fun _ => Keeps.refl _) hq ?_
    refine (hv_callD (enc := eN) (ea_cons (ev_var rfl) (ea_cons (ev_var rfl) ea_nil)) (fun _ _ q => ⟨v_lengths, (eI v_siding), rfl, q⟩) rfl fun _ => ?_)
    refine (hv_grd fun g2 => ?_)
    refine (hv_narrow (tyT tyI) (fun z => [some (.dat (eD z)), some (.dat (eI v_siding))]) g2 fun v_lengths => ?_)
    refine (hv_grd fun g1 => ?_)
    exact (hv_ret (v := (m_best_by v_lengths v_siding).get) (ev_call (ea_cons (ev_var rfl) (ea_cons (ev_var rfl) ea_nil)) fun _ q => ⟨v_lengths, v_siding, rfl, accR_ok g1 q⟩) (rf_dat (enc := eI) (Lf := fun _ => L) (r := (m_best_by v_lengths v_siding).get) rfl (wk_of_sub (List.Sublist.refl _))))
abbrev s_count_fullest : Stmt := top 27
theorem sc_count_fullest : FnScope ["lengths", "siding", "counts"] ["lengths", "siding"] (defScope s_count_fullest) := ⟨rfl, rfl, rfl, by decide +kernel, rfl, by decide +kernel, by decide +kernel⟩
abbrev ps_count_fullest : List Str := ["lengths", "siding"]
theorem ok_count_fullest {f : Addr} {fd : FuncData} (D : DefAt K mg "count_fullest" s_count_fullest ps_count_fullest f fd) (ca : Nat → Addr) (B_max : mg "max" = none) (H_check_both : HasX P w K mg base 3 "check_both" ps_check_both (d_check_both ca)) (H_counts_by : Has P w K mg base 1 "counts_by" ps_counts_by (d_counts_by ca)) : HasX P w K mg base 4 "count_fullest" ps_count_fullest (d_count_fullest ca) := by
  obtain ⟨f_check_both, _, g_check_both, kp_check_both, b_check_both, G_check_both⟩ := id H_check_both
  obtain ⟨_, _, g0_check_both, kp0_check_both, b0_check_both, G0_check_both⟩ := has0 H_check_both
  obtain ⟨f_counts_by, _, g_counts_by, kp_counts_by, b_counts_by, G_counts_by⟩ := id H_counts_by
  refine ⟨f, fd, D.g, D.F.kp, D.b, fn_zX D.F sc_count_fullest (fun rs L k x h => ?_) fun cdv A outer s H E hr => ?_⟩
  · obtain ⟨_, _, rfl, _⟩ := h
    rfl
  · have nd := sc_count_fullest.nd
    have tk : Takes (cxOf (L2.CX P w) P w K mg base ["lengths", "siding", "counts"] "count_fullest" (defScope s_count_fullest) f cdv A outer s H E) (fun cls d _ H => E cls d H) := takes_of rfl rfl rfl rfl
    refine ⟨_, (pss_cons (ps_expr (pe_callS G_check_both (hr.mono (by first | decide | omega)) (by rfl) g_check_both kp_check_both b_check_both (fun σ => passAt tk σ) (pa_cons (pv 0) (pa_cons (pv 1) pa_nil))))
    (pss_cons (ps_set (i := 2) nd rfl (by first | exact .inl rfl | exact .inr rfl) (pe_call G_counts_by (hr.mono (by first | decide | omega)) (by rfl) g_counts_by kp_counts_by b_counts_by .nil pass0 (pa_cons (pv 0) (pa_cons (pv 1) pa_nil))))
    (pss_one (ps_ret (pe_ix (ix_M hr.units) (pv 2) (pe_callB (cr_maxDI rfl) (by rfl) B_max (by decide +kernel) (pa_cons (pv 2) pa_nil)) (fun _ _ => rfl)))))), fun rs L q x h => ?_⟩
    obtain ⟨v_lengths, v_siding, rfl, hq⟩ := h
    refine finX (ca := ca) (enc := eI) (Lf := fun _ => L) (fun _ => Keeps.refl _) hq ?_
    refine (hv_callD (enc := eN) (ea_cons (ev_var rfl) (ea_cons (ev_var rfl) ea_nil)) (fun _ _ q => ⟨v_lengths, (eI v_siding), rfl, q⟩) rfl fun _ => ?_)
    refine (hv_grd fun g3 => ?_)
    refine (hv_narrow (tyT tyI) (fun z => [some (.dat (eD z)), some (.dat (eI v_siding)), none]) g3 fun v_lengths => ?_)
    refine (hv_grd fun g2 => ?_)
    refine (hv_set (e := (eM (κ := Int) eI)) (ev_call (ea_cons (ev_var rfl) (ea_cons (ev_var rfl) ea_nil)) fun _ q => ⟨v_lengths, v_siding, rfl, accR_ok g2 q⟩) fun v_counts => ?_)
    refine (hv_grd fun g1 => ?_)
    exact (hv_ret (v := (atA v_counts (maxI (keysA v_counts)))) (ev_op (ev_var rfl) (ev_keyI (ev_cb (ea_cons (ev_var rfl) ea_nil) fun _ q => cd_maxDI (e := eI) dctD g1.1 q)) fun _ q => od_ixA (e := eI) dctD g1.2 q) (rf_dat (enc := eI) (Lf := fun _ => L) (r := (atA v_counts (maxI (keysA v_counts)))) rfl (wk_of_sub (List.Sublist.refl _))))
abbrev s_fullest : Stmt := top 28
theorem sc_fullest : FnScope ["lengths", "siding", "tables", "left", "found", "at"] ["lengths", "siding"] (defScope s_fullest) := ⟨rfl, rfl, rfl, by decide +kernel, rfl, by decide +kernel, by decide +kernel⟩
abbrev ps_fullest : List Str := ["lengths", "siding"]
theorem ok_fullest {f : Addr} {fd : FuncData} (D : DefAt K mg "fullest" s_fullest ps_fullest f fd) (ca : Nat → Addr) (B_range : mg "range" = none) (B_tuple : mg "tuple" = none) (B_len : mg "len" = none) (H_check_both : HasX P w K mg base 3 "check_both" ps_check_both (d_check_both ca)) (H_marks_by : Has P w K mg base 1 "marks_by" ps_marks_by (d_marks_by ca)) (H_best_by : Has P w K mg base 3 "best_by" ps_best_by (d_best_by ca)) (H_has_sum : Has P w K mg base 1 "has_sum" ps_has_sum (d_has_sum ca)) : HasX P w K mg base 4 "fullest" ps_fullest (d_fullest ca) := by
  obtain ⟨f_check_both, _, g_check_both, kp_check_both, b_check_both, G_check_both⟩ := id H_check_both
  obtain ⟨_, _, g0_check_both, kp0_check_both, b0_check_both, G0_check_both⟩ := has0 H_check_both
  obtain ⟨f_marks_by, _, g_marks_by, kp_marks_by, b_marks_by, G_marks_by⟩ := id H_marks_by
  obtain ⟨f_best_by, _, g_best_by, kp_best_by, b_best_by, G_best_by⟩ := id H_best_by
  obtain ⟨f_has_sum, _, g_has_sum, kp_has_sum, b_has_sum, G_has_sum⟩ := id H_has_sum
  refine ⟨f, fd, D.g, D.F.kp, D.b, fn_zX D.F sc_fullest (fun rs L k x h => ?_) fun cdv A outer s H E hr => ?_⟩
  · obtain ⟨_, _, rfl, _⟩ := h
    rfl
  · have nd := sc_fullest.nd
    have tk : Takes (cxOf (L2.CX P w) P w K mg base ["lengths", "siding", "tables", "left", "found", "at"] "fullest" (defScope s_fullest) f cdv A outer s H E) (fun cls d _ H => E cls d H) := takes_of rfl rfl rfl rfl
    refine ⟨_, (pss_cons (ps_expr (pe_callS G_check_both (hr.mono (by first | decide | omega)) (by rfl) g_check_both kp_check_both b_check_both (fun σ => passAt tk σ) (pa_cons (pv 0) (pa_cons (pv 1) pa_nil))))
    (pss_cons (ps_set (i := 2) nd rfl (by first | exact .inl rfl | exact .inr rfl) (pe_call G_marks_by (hr.mono (by first | decide | omega)) (by rfl) g_marks_by kp_marks_by b_marks_by .nil pass0 (pa_cons (pv 0) (pa_cons (pv 1) pa_nil))))
    (pss_cons (ps_set (i := 3) nd rfl (by first | exact .inl rfl | exact .inr rfl) (pe_call G_best_by (hr.mono (by first | decide | omega)) (by rfl) g_best_by kp_best_by b_best_by .nil pass0 (pa_cons (pv 0) (pa_cons (pv 1) pa_nil))))
    (pss_cons (ps_set (i := 4) nd rfl (by first | exact .inl rfl | exact .inr rfl) (pe_lst pa_nil))
    (pss_cons (ps_for (passes_of rfl) rfl (pi_range3 (by rfl) B_range (pa_cons (pe_op op_sub (pe_callB call_lenZ (by rfl) B_len (by decide +kernel) (pa_cons (pv 0) pa_nil)) pe_int) (pa_cons (pe_un un_neg pe_int) (pa_cons (pe_un un_neg pe_int) pa_nil)))) (pg_name (i := 5) nd rfl (by first | exact .inl rfl | exact .inr rfl))
      (pss_one (ps_if (pt_not (pt_val (pe_call G_has_sum (hr.mono (by first | decide | omega)) (by rfl) g_has_sum kp_has_sum b_has_sum .nil pass0 (pa_cons (pe_ix ix_seq (pv 2) (pv 5) (fun _ _ => rfl)) (pa_cons (pv 3) pa_nil))))) (pss_cons (ps_expr (pe_bm PySem.F.plainAttrs_list PySem.F.slot_list_append PySem.F.type_list_append mt_append (pv 4) (pa_cons (pv 5) pa_nil)))
        (pss_one (ps_aug (i := 3) nd rfl (by first | exact .inl rfl | exact .inr rfl) (pe_ix ix_seq (pv 0) (pv 5) (fun _ _ => rfl)) ip_sub))) pss_nil)))
    (pss_cons (ps_expr (pe_bm0 PySem.F.plainAttrs_list PySem.F.slot_list_reverse PySem.F.type_list_reverse mt_reverse (pv 4)))
    (pss_one (ps_ret (pe_callTy call_tupleZ (by rfl) B_tuple (by decide +kernel) (pa_cons (pv 4) pa_nil)))))))))), fun rs L q x h => ?_⟩
    obtain ⟨v_lengths, v_siding, rfl, hq⟩ := h
    refine finX (ca := ca) (enc := (eT eI)) (Lf := fun _ => L) (fun _ => Keeps.refl _) hq ?_
    refine (hv_callD (enc := eN) (ea_cons (ev_var rfl) (ea_cons (ev_var rfl) ea_nil)) (fun _ _ q => ⟨v_lengths, (eI v_siding), rfl, q⟩) rfl fun _ => ?_)
    refine (hv_grd fun g12 => ?_)
    refine (hv_narrow (tyT tyI) (fun z => [some (.dat (eD z)), some (.dat (eI v_siding)), none, none, none, none]) g12 fun v_lengths => ?_)
    refine (hv_grd fun g11 => ?_)
    refine (hv_set (e := (eL eI)) (ev_call (ea_cons (ev_var rfl) (ea_cons (ev_var rfl) ea_nil)) fun _ q => ⟨v_lengths, v_siding, rfl, accR_ok g11 q⟩) fun v_tables => ?_)
    refine (hv_grd fun g10 => ?_)
    refine (hv_set (e := eI) (ev_call (ea_cons (ev_var rfl) (ea_cons (ev_var rfl) ea_nil)) fun _ q => ⟨v_lengths, v_siding, rfl, accR_ok g10 q⟩) fun v_left => ?_)
    refine (hv_own (e := eI) (ew_lst (ds := ([] : List Int).map eI) ea_nil rfl (szl _ (Nat.le_trans (Nat.le_of_eq (show _ = 0 from rfl)) (by decide)))) fun p_found v_found nin_p_found => ?_)
    refine (hv_grd fun g9 => ?_)
    refine (hv_bind (fun (s : Int × (List Int)) ε' L' => match s with | (v_left, v_found) => ∃ (u5 : Option Rs), ε' = [some (.dat ((eT eI) v_lengths)), some (.dat (eI v_siding)), some (.dat ((eL eI) v_tables)), some (.dat (eI v_left)), some (.own p_found), u5] ∧ (plus L p_found (v_found.map eI)) = L') (hv_for (fun (s : Int × (List Int)) ε' L' => match s with | (v_left, v_found) => ∃ (u5 : Option Rs), ε' = [some (.dat ((eT eI) v_lengths)), some (.dat (eI v_siding)), some (.dat ((eL eI) v_tables)), some (.dat (eI v_left)), some (.own p_found), u5] ∧ (plus L p_found (v_found.map eI)) = L') (xs := (rngD ((v_lengths.length : Int) - (1 : Int)) (-1 : Int))) (g0 := eI) (f := (fun (x1 : Int) (s : Int × (List Int)) => match s with | (v_left, v_found) => (grd (okIx v_tables x1 ∧ (m_has_sum (ix v_tables x1) v_left).isOk = true) (bif (!(m_has_sum (ix v_tables x1) v_left).get) then (grd (v_found.length < sizeLine) (lt (v_found ++ [x1]) fun v_found : List Int => (grd (okIx v_lengths x1) (lt (v_left - (ix v_lengths x1)) fun v_left => (.nx (v_left, v_found)))))) else (.nx (v_left, v_found)))))) (ei_rangeD (ev_op (ev_cb (ea_cons (ev_var rfl) ea_nil) fun _ q => cd_lenT q) ev_int fun _ q => od_sub q) (ev_un ev_int fun _ q => cd_neg q) (ev_un ev_int fun _ q => cd_neg q) g9.1 g9.2) ⟨_, rfl, rfl⟩ ?_) ?_)
    · rintro x1 ⟨v_left, v_found⟩ _ _ ⟨u5, rfl, rfl⟩
      refine ⟨_, eg_name, ?_⟩
      refine (hv_grd fun g8 => ?_)
      refine (hv_ifL (et_not (et_b (ev_call (ea_cons (ev_op (ev_var rfl) (ev_var rfl) fun _ q => od_ixL (e := eI) g8.1 q) (ea_cons (ev_var rfl) ea_nil)) fun _ q => ⟨(ix v_tables x1), v_left, rfl, accR_ok g8.2 q⟩))) (fun h3 => ?_) fun h3 => ?_)
      · refine (hv_grd fun g6 => ?_)
        refine (hv_appE (e := eI) (Lf := fun l' => (plus L p_found (l'.map eI))) rfl (ev_var rfl) plus_mem g6 (fun l' => by rw [up_plus (nin_of nin_p_found (by simp [plus, plusM, Led.ks]))]) fun v_found => ?_)
        refine (hv_grd fun g5 => ?_)
        refine (hv_one ?_)
        refine (hv_augS (e := eI) rfl (ev_op (ev_var rfl) (ev_var rfl) fun _ q => od_ixT (e := eI) g5 q) (fun _ q => od_ip_sub q) fun v_left => ?_)
        exact (hv_nx ⟨_, rfl, rfl⟩)
      · exact (hv_nx ⟨_, rfl, rfl⟩)
    · rintro ⟨v_left, v_found⟩ _ _ ⟨u5, rfl, rfl⟩
      refine (hv_revE (e := eI) (Lf := fun l' => (plus L p_found (l'.map eI))) rfl plus_mem (fun l' => by rw [up_plus (nin_of nin_p_found (by simp [plus, plusM, Led.ks]))]) fun v_found => ?_)
      refine (hv_wk (M2 := L) (ε' := [some (.dat ((eT eI) v_lengths)), some (.dat (eI v_siding)), some (.dat ((eL eI) v_tables)), some (.dat (eI v_left)), some (.dat ((eL eI) v_found)), none]) (wk_of_sub (by exact List.sublist_append_left _ _)) (evwk_mk (.cons (.mk (.dat _)) (.cons (.mk (.dat _)) (.cons (.mk (.dat _)) (.cons (.mk (.dat _)) (.cons (.mk (.frz plus_mem (nin_of nin_p_found (by simp [plus, plusM, Led.ks])))) (.cons (.no _) .nil))))))) ?_)
      exact (hv_ret (v := v_found) (ev_cb (ea_cons (ev_var rfl) ea_nil) fun _ q => cd_tupL q) (rf_dat (enc := (eT eI)) (Lf := fun _ => L) (r := v_found) rfl (wk_of_sub (List.Sublist.refl _))))
abbrev s_have_sum : Stmt := top 29
theorem sc_have_sum : FnScope ["ahead", "behind", "whole", "one"] ["ahead", "behind", "whole"] (defScope s_have_sum) := ⟨rfl, rfl, rfl, by decide +kernel, rfl, by decide +kernel, by decide +kernel⟩
abbrev ps_have_sum : List Str := ["ahead", "behind", "whole"]
theorem ok_have_sum {f : Addr} {fd : FuncData} (D : DefAt K mg "have_sum" s_have_sum ps_have_sum f fd) (ca : Nat → Addr) (B_any : mg "any" = none) (B_range : mg "range" = none) (H_has_sum : Has P w K mg base 1 "has_sum" ps_has_sum (d_has_sum ca)) : Has P w K mg base 2 "have_sum" ps_have_sum (d_have_sum ca) := by
  obtain ⟨f_has_sum, _, g_has_sum, kp_has_sum, b_has_sum, G_has_sum⟩ := id H_has_sum
  refine ⟨f, fd, D.g, D.F.kp, D.b, fn_z D.F sc_have_sum (fun rs L k x h => ?_) fun cdv A outer s H E hr => ?_⟩
  · obtain ⟨_, _, _, rfl, _⟩ := h
    rfl
  · have nd := sc_have_sum.nd
    refine ⟨_, (pss_one (ps_ret (pe_callB (cr_any rfl) (by rfl) B_any (by decide +kernel) (pa_cons (pe_lc (own := [("one", 3)]) rfl nd (pi_range1 (by rfl) B_range (pa_cons (pe_op op_addZ (pv 2) pe_int) pa_nil)) (blkOk_by (own := [("one", 3)]) (N := ["ahead", "behind", "whole", "one"]) (sc := defScope s_have_sum) (by decide +kernel)) (fun _ _ _ _ _ => (pg_name (i := 3) nd rfl (by first | exact .inl rfl | exact .inr rfl))) (fun _ _ _ _ _ => pts_nil) (fun _ _ _ _ _ => (pe_and (pe_call G_has_sum (hr.mono (by first | decide | omega)) (by rfl) g_has_sum kp_has_sum b_has_sum .nil pass0 (pa_cons (pv 0) (pa_cons (pv 3) pa_nil))) (pe_one (pe_call G_has_sum (hr.mono (by first | decide | omega)) (by rfl) g_has_sum kp_has_sum b_has_sum .nil pass0 (pa_cons (pv 1) (pa_cons (pe_op op_sub (pv 2) (pv 3)) pa_nil))))))) pa_nil)))), fun rs L q x h => ?_⟩
    obtain ⟨v_ahead, v_behind, v_whole, rfl, hq⟩ := h
    refine fin0 (ca := ca) (enc := eB) (Lf := fun _ => L) (X := fun _ L' => L' = L) (x := fun _ _ => False) (fun _ => Keeps.refl _) hq ?_
    refine (hv_grd fun g7 => ?_)
    exact (hv_ret (v := ((rngI 0 (v_whole + (1 : Int))).any (fun x1 : Int => ((m_has_sum v_ahead x1).get && (m_has_sum v_behind (v_whole - x1)).get)))) (ev_cb (ea_cons (ev_lcA (e := eB) (ei_range1 (ev_op (ev_var rfl) ev_int fun _ q => od_add_int q) g7.1) g7.2.2 (fun x1 m2 a4 p3 n5 => ⟨_, eg_name, (ev_and (ev_call (ea_cons (ev_var rfl) (ea_cons (ev_var rfl) ea_nil)) fun _ q => ⟨v_ahead, x1, rfl, accR_ok (g7.2.1 x1 m2).1 q⟩) fun h6 => (ev_call (ea_cons (ev_var rfl) (ea_cons (ev_op (ev_var rfl) (ev_var rfl) fun _ q => od_sub q) ea_nil)) fun _ q => ⟨v_behind, (v_whole - x1), rfl, accR_ok ((g7.2.1 x1 m2).2 h6) q⟩))⟩) gown_name) ea_nil) fun _ q => cd_anyE q) (rf_dat (enc := eB) (Lf := fun _ => L) (r := ((rngI 0 (v_whole + (1 : Int))).any (fun x1 : Int => ((m_has_sum v_ahead x1).get && (m_has_sum v_behind (v_whole - x1)).get)))) rfl (wk_of_sub (List.Sublist.refl _))))
abbrev s_words_for : Stmt := top 30
theorem sc_words_for : FnScope ["lengths", "siding", "best", "ahead", "behind", "found", "at", "length", "can_be_in", "can_be_out"] ["lengths", "siding"] (defScope s_words_for) := ⟨rfl, rfl, rfl, by decide +kernel, rfl, by decide +kernel, by decide +kernel⟩
abbrev ps_words_for : List Str := ["lengths", "siding"]
theorem ok_words_for {f : Addr} {fd : FuncData} (D : DefAt K mg "words_for" s_words_for ps_words_for f fd) (ca : Nat → Addr) (B_list : mg "list" = none) (B_enumerate : mg "enumerate" = none) (B_reversed : mg "reversed" = none) {t_FREE : Tok} (c_FREE : mg "FREE" = some (.str "free" t_FREE)) {t_SURE : Tok} (c_SURE : mg "SURE" = some (.str "sure" t_SURE)) {t_OUT : Tok} (c_OUT : mg "OUT" = some (.str "out" t_OUT)) (H_check_both : HasX P w K mg base 3 "check_both" ps_check_both (d_check_both ca)) (H_best_by : Has P w K mg base 3 "best_by" ps_best_by (d_best_by ca)) (H_marks_by : Has P w K mg base 1 "marks_by" ps_marks_by (d_marks_by ca)) (H_have_sum : Has P w K mg base 2 "have_sum" ps_have_sum (d_have_sum ca)) : HasX P w K mg base 4 "words_for" ps_words_for (d_words_for ca) := by
  obtain ⟨f_check_both, _, g_check_both, kp_check_both, b_check_both, G_check_both⟩ := id H_check_both
  obtain ⟨_, _, g0_check_both, kp0_check_both, b0_check_both, G0_check_both⟩ := has0 H_check_both
  obtain ⟨f_best_by, _, g_best_by, kp_best_by, b_best_by, G_best_by⟩ := id H_best_by
  obtain ⟨f_marks_by, _, g_marks_by, kp_marks_by, b_marks_by, G_marks_by⟩ := id H_marks_by
  obtain ⟨f_have_sum, _, g_have_sum, kp_have_sum, b_have_sum, G_have_sum⟩ := id H_have_sum
  refine ⟨f, fd, D.g, D.F.kp, D.b, fn_zX D.F sc_words_for (fun rs L k x h => ?_) fun cdv A outer s H E hr => ?_⟩
  · obtain ⟨_, _, rfl, _⟩ := h
    rfl
  · have nd := sc_words_for.nd
    have tk : Takes (cxOf (L2.CX P w) P w K mg base ["lengths", "siding", "best", "ahead", "behind", "found", "at", "length", "can_be_in", "can_be_out"] "words_for" (defScope s_words_for) f cdv A outer s H E) (fun cls d _ H => E cls d H) := takes_of rfl rfl rfl rfl
    refine ⟨_, (pss_cons (ps_expr (pe_callS G_check_both (hr.mono (by first | decide | omega)) (by rfl) g_check_both kp_check_both b_check_both (fun σ => passAt tk σ) (pa_cons (pv 0) (pa_cons (pv 1) pa_nil))))
    (pss_cons (ps_set (i := 2) nd rfl (by first | exact .inl rfl | exact .inr rfl) (pe_call G_best_by (hr.mono (by first | decide | omega)) (by rfl) g_best_by kp_best_by b_best_by .nil pass0 (pa_cons (pv 0) (pa_cons (pv 1) pa_nil))))
    (pss_cons (ps_set (i := 3) nd rfl (by first | exact .inl rfl | exact .inr rfl) (pe_call G_marks_by (hr.mono (by first | decide | omega)) (by rfl) g_marks_by kp_marks_by b_marks_by .nil pass0 (pa_cons (pv 0) (pa_cons (pv 2) pa_nil))))
    (pss_cons (ps_set (i := 4) nd rfl (by first | exact .inl rfl | exact .inr rfl) (pe_lrev rfl (by rfl) B_list (by rfl) B_reversed (pe_call G_marks_by (hr.mono (by first | decide | omega)) (by rfl) g_marks_by kp_marks_by b_marks_by .nil pass0 (pa_cons (pe_revT (pv 0)) (pa_cons (pv 2) pa_nil)))))
    (pss_cons (ps_set (i := 5) nd rfl (by first | exact .inl rfl | exact .inr rfl) (pe_lst pa_nil))
    (pss_cons (ps_for (passes_of rfl) rfl (pi_en (by rfl) B_enumerate (pa_cons (pv 0) pa_nil)) (pg_tup (n := 2) rfl (pgs_cons (pg_name (i := 6) nd rfl (by first | exact .inl rfl | exact .inr rfl)) (pgs_cons (pg_name (i := 7) nd rfl (by first | exact .inl rfl | exact .inr rfl)) pgs_nil)))
      (pss_cons (ps_set (i := 8) nd rfl (by first | exact .inl rfl | exact .inr rfl) (pe_call G_have_sum (hr.mono (by first | decide | omega)) (by rfl) g_have_sum kp_have_sum b_have_sum .nil pass0 (pa_cons (pe_ix ix_seq (pv 3) (pv 6) (fun _ _ => rfl)) (pa_cons (pe_ix ix_seq (pv 4) (pe_op op_addZ (pv 6) pe_int) (fun _ _ => rfl)) (pa_cons (pe_op op_sub (pv 2) (pv 7)) pa_nil)))))
      (pss_cons (ps_set (i := 9) nd rfl (by first | exact .inl rfl | exact .inr rfl) (pe_call G_have_sum (hr.mono (by first | decide | omega)) (by rfl) g_have_sum kp_have_sum b_have_sum .nil pass0 (pa_cons (pe_ix ix_seq (pv 3) (pv 6) (fun _ _ => rfl)) (pa_cons (pe_ix ix_seq (pv 4) (pe_op op_addZ (pv 6) pe_int) (fun _ _ => rfl)) (pa_cons (pv 2) pa_nil)))))
      (pss_one (ps_if (PW.pt (pw_and (pt_val (pv 8)) (pw_and1 (pt_val (pv 9))))) (pss_one (ps_expr (pe_bm PySem.F.plainAttrs_list PySem.F.slot_list_append PySem.F.type_list_append mt_append (pv 5) (pa_cons (pe_glob (v := .str "free") (by rfl) c_FREE ⟨_, rfl⟩) pa_nil)))) (pss_one (ps_expr (pe_bm PySem.F.plainAttrs_list PySem.F.slot_list_append PySem.F.type_list_append mt_append (pv 5) (pa_cons (pe_ifExp (pt_val (pv 8)) (pe_glob (v := .str "sure") (by rfl) c_SURE ⟨_, rfl⟩) (pe_glob (v := .str "out") (by rfl) c_OUT ⟨_, rfl⟩)) pa_nil)))))))))
    (pss_one (ps_ret (pv 5))))))))), fun rs L q x h => ?_⟩
    obtain ⟨v_lengths, v_siding, rfl, hq⟩ := h
    refine finX (ca := ca) (enc := (eL eS)) (Lf := fun _ => L) (fun _ => Keeps.refl _) hq ?_
    refine (hv_callD (enc := eN) (ea_cons (ev_var rfl) (ea_cons (ev_var rfl) ea_nil)) (fun _ _ q => ⟨v_lengths, (eI v_siding), rfl, q⟩) rfl fun _ => ?_)
    refine (hv_grd fun g15 => ?_)
    refine (hv_narrow (tyT tyI) (fun z => [some (.dat (eD z)), some (.dat (eI v_siding)), none, none, none, none, none, none, none, none]) g15 fun v_lengths => ?_)
    refine (hv_grd fun g14 => ?_)
    refine (hv_set (e := eI) (ev_call (ea_cons (ev_var rfl) (ea_cons (ev_var rfl) ea_nil)) fun _ q => ⟨v_lengths, v_siding, rfl, accR_ok g14 q⟩) fun v_best => ?_)
    refine (hv_grd fun g13 => ?_)
    refine (hv_set (e := (eL eI)) (ev_call (ea_cons (ev_var rfl) (ea_cons (ev_var rfl) ea_nil)) fun _ q => ⟨v_lengths, v_best, rfl, accR_ok g13 q⟩) fun v_ahead => ?_)
    refine (hv_grd fun g12 => ?_)
    refine (hv_set (e := (eL eI)) (ev_lrev (ev_call (ea_cons (ev_revT (ev_var rfl)) (ea_cons (ev_var rfl) ea_nil)) fun _ q => ⟨v_lengths.reverse, v_best, rfl, accR_ok g12 q⟩)) fun v_behind => ?_)
    refine (hv_own (e := eS) (ew_lst (ds := ([] : List Str).map eS) ea_nil rfl (szl _ (Nat.le_trans (Nat.le_of_eq (show _ = 0 from rfl)) (by decide)))) fun p_found v_found nin_p_found => ?_)
    refine (hv_bind (fun (s : (List Str)) ε' L' => match s with | v_found => ∃ (u6 u7 u8 u9 : Option Rs), ε' = [some (.dat ((eT eI) v_lengths)), some (.dat (eI v_siding)), some (.dat (eI v_best)), some (.dat ((eL eI) v_ahead)), some (.dat ((eL eI) v_behind)), some (.own p_found), u6, u7, u8, u9] ∧ (plus L p_found (v_found.map eS)) = L') (hv_for (fun (s : (List Str)) ε' L' => match s with | v_found => ∃ (u6 u7 u8 u9 : Option Rs), ε' = [some (.dat ((eT eI) v_lengths)), some (.dat (eI v_siding)), some (.dat (eI v_best)), some (.dat ((eL eI) v_ahead)), some (.dat ((eL eI) v_behind)), some (.own p_found), u6, u7, u8, u9] ∧ (plus L p_found (v_found.map eS)) = L') (xs := (enumI v_lengths)) (g0 := (eP2 eI eI)) (f := (fun (x1 : (Int × Int)) (s : (List Str)) => match s with | v_found => (grd (okIx v_ahead x1.1 ∧ okIx v_behind (x1.1 + (1 : Int)) ∧ (m_have_sum (ix v_ahead x1.1) (ix v_behind (x1.1 + (1 : Int))) (v_best - x1.2)).isOk = true) (lt (m_have_sum (ix v_ahead x1.1) (ix v_behind (x1.1 + (1 : Int))) (v_best - x1.2)).get fun v_can_be_in : Bool => (grd (okIx v_ahead x1.1 ∧ okIx v_behind (x1.1 + (1 : Int)) ∧ (m_have_sum (ix v_ahead x1.1) (ix v_behind (x1.1 + (1 : Int))) v_best).isOk = true) (lt (m_have_sum (ix v_ahead x1.1) (ix v_behind (x1.1 + (1 : Int))) v_best).get fun v_can_be_out : Bool => (bif (v_can_be_in && v_can_be_out) then (grd (v_found.length < sizeLine) (lt (v_found ++ [("free" : Str)]) fun v_found : List Str => (.nx v_found))) else (grd (v_found.length < sizeLine) (lt (v_found ++ [(bif v_can_be_in then ("sure" : Str) else ("out" : Str))]) fun v_found : List Str => (.nx v_found)))))))))) (ei_en (e := eI) (ev_var rfl) seqT rfl) ⟨_, _, _, _, rfl, rfl⟩ ?_) ?_)
    · rintro x1 v_found _ _ ⟨u6, u7, u8, u9, rfl, rfl⟩
      refine ⟨_, eg_tup2, ?_⟩
      refine (hv_grd fun g11 => ?_)
      refine (hv_set (e := eB) (ev_call (ea_cons (ev_op (ev_var rfl) (ev_var rfl) fun _ q => od_ixL (e := eI) g11.1 q) (ea_cons (ev_op (ev_var rfl) (ev_op (ev_var rfl) ev_int fun _ q => od_add_int q) fun _ q => od_ixL (e := eI) g11.2.1 q) (ea_cons (ev_op (ev_var rfl) (ev_var rfl) fun _ q => od_sub q) ea_nil))) fun _ q => ⟨(ix v_ahead x1.1), (ix v_behind (x1.1 + (1 : Int))), (v_best - x1.2), rfl, accR_ok g11.2.2 q⟩) fun v_can_be_in => ?_)
      refine (hv_grd fun g10 => ?_)
      refine (hv_set (e := eB) (ev_call (ea_cons (ev_op (ev_var rfl) (ev_var rfl) fun _ q => od_ixL (e := eI) g10.1 q) (ea_cons (ev_op (ev_var rfl) (ev_op (ev_var rfl) ev_int fun _ q => od_add_int q) fun _ q => od_ixL (e := eI) g10.2.1 q) (ea_cons (ev_var rfl) ea_nil))) fun _ q => ⟨(ix v_ahead x1.1), (ix v_behind (x1.1 + (1 : Int))), v_best, rfl, accR_ok g10.2.2 q⟩) fun v_can_be_out => ?_)
      refine (hv_ifL (et_and (et_b (ev_var rfl)) fun h3 => (et_b (ev_var rfl))) (fun h4 => ?_) fun h4 => ?_)
      · refine (hv_grd fun g6 => ?_)
        refine (hv_one ?_)
        refine (hv_appE (e := eS) (Lf := fun l' => (plus L p_found (l'.map eS))) rfl ev_str plus_mem g6 (fun l' => by rw [up_plus (nin_of nin_p_found (by simp [plus, plusM, Led.ks]))]) fun v_found => ?_)
        exact (hv_nx ⟨_, _, _, _, rfl, rfl⟩)
      · refine (hv_grd fun g9 => ?_)
        refine (hv_one ?_)
        refine (hv_appE (e := eS) (Lf := fun l' => (plus L p_found (l'.map eS))) rfl (ev_if (e := eS) (et_b (ev_var rfl)) (fun h8 => ev_str) fun h8 => ev_str) plus_mem g9 (fun l' => by rw [up_plus (nin_of nin_p_found (by simp [plus, plusM, Led.ks]))]) fun v_found => ?_)
        exact (hv_nx ⟨_, _, _, _, rfl, rfl⟩)
    · rintro v_found _ _ ⟨u6, u7, u8, u9, rfl, rfl⟩
      refine (hv_wk (M2 := L) (ε' := [some (.dat ((eT eI) v_lengths)), some (.dat (eI v_siding)), some (.dat (eI v_best)), some (.dat ((eL eI) v_ahead)), some (.dat ((eL eI) v_behind)), some (.dat ((eL eS) v_found)), none, none, none, none]) (wk_of_sub (by exact List.sublist_append_left _ _)) (evwk_mk (.cons (.mk (.dat _)) (.cons (.mk (.dat _)) (.cons (.mk (.dat _)) (.cons (.mk (.dat _)) (.cons (.mk (.dat _)) (.cons (.mk (.frz plus_mem (nin_of nin_p_found (by simp [plus, plusM, Led.ks])))) (.cons (.no _) (.cons (.no _) (.cons (.no _) (.cons (.no _) .nil))))))))))) ?_)
      exact (hv_ret (v := v_found) (ev_var rfl) (rf_dat (enc := (eL eS)) (Lf := fun _ => L) (r := v_found) rfl (wk_of_sub (List.Sublist.refl _))))
abbrev s_is_fullest : Stmt := top 31
theorem sc_is_fullest : FnScope ["lengths", "siding", "choice", "at"] ["lengths", "siding", "choice"] (defScope s_is_fullest) := ⟨rfl, rfl, rfl, by decide +kernel, rfl, by decide +kernel, by decide +kernel⟩
abbrev ps_is_fullest : List Str := ["lengths", "siding", "choice"]
theorem ok_is_fullest {f : Addr} {fd : FuncData} (D : DefAt K mg "is_fullest" s_is_fullest ps_is_fullest f fd) (ca : Nat → Addr) (B_sum : mg "sum" = none) (B_all : mg "all" = none) (B_len : mg "len" = none) (H_check_both : HasX P w K mg base 3 "check_both" ps_check_both (d_check_both ca)) (H_best_by : Has P w K mg base 3 "best_by" ps_best_by (d_best_by ca)) (H_are_ascending : Has P w K mg base 1 "are_ascending" ps_are_ascending (d_are_ascending ca)) (H_is_within : Has P w K mg base 1 "is_within" ps_is_within (d_is_within ca)) : HasX P w K mg base 4 "is_fullest" ps_is_fullest (d_is_fullest ca) := by
  obtain ⟨f_check_both, _, g_check_both, kp_check_both, b_check_both, G_check_both⟩ := id H_check_both
  obtain ⟨_, _, g0_check_both, kp0_check_both, b0_check_both, G0_check_both⟩ := has0 H_check_both
  obtain ⟨f_best_by, _, g_best_by, kp_best_by, b_best_by, G_best_by⟩ := id H_best_by
  obtain ⟨f_are_ascending, _, g_are_ascending, kp_are_ascending, b_are_ascending, G_are_ascending⟩ := id H_are_ascending
  obtain ⟨f_is_within, _, g_is_within, kp_is_within, b_is_within, G_is_within⟩ := id H_is_within
  refine ⟨f, fd, D.g, D.F.kp, D.b, fn_zX D.F sc_is_fullest (fun rs L k x h => ?_) fun cdv A outer s H E hr => ?_⟩
  · obtain ⟨_, _, _, rfl, _⟩ := h
    rfl
  · have nd := sc_is_fullest.nd
    have tk : Takes (cxOf (L2.CX P w) P w K mg base ["lengths", "siding", "choice", "at"] "is_fullest" (defScope s_is_fullest) f cdv A outer s H E) (fun cls d _ H => E cls d H) := takes_of rfl rfl rfl rfl
    refine ⟨_, (pss_cons (ps_expr (pe_callS G_check_both (hr.mono (by first | decide | omega)) (by rfl) g_check_both kp_check_both b_check_both (fun σ => passAt tk σ) (pa_cons (pv 0) (pa_cons (pv 1) pa_nil))))
    (pss_cons (ps_if (PW.pt (pw_or (pt_not (pt_val (pe_call G_are_ascending (hr.mono (by first | decide | omega)) (by rfl) g_are_ascending kp_are_ascending b_are_ascending .nil pass0 (pa_cons (pv 2) pa_nil)))) (pw_or1 (pt_not (pt_val (pe_callB (cr_all rfl) (by rfl) B_all (by decide +kernel) (pa_cons (pe_lc (own := [("at", 3)]) rfl nd (pi_sq (pv 2)) (blkOk_by (own := [("at", 3)]) (N := ["lengths", "siding", "choice", "at"]) (sc := defScope s_is_fullest) (by decide +kernel)) (fun _ _ _ _ _ => (pg_name (i := 3) nd rfl (by first | exact .inl rfl | exact .inr rfl))) (fun _ _ _ _ _ => pts_nil) (fun _ _ _ _ _ => (pe_call G_is_within (hr.mono (by first | decide | omega)) (by rfl) g_is_within kp_is_within b_is_within .nil pass0 (pa_cons (pv 3) (pa_cons pe_int (pa_cons (pe_op op_sub (pe_callB (callK (r := rLenZ) (K := K) call_lenZ (by rfl)) (by rfl) B_len (by decide +kernel) (pa_cons (pv 0) pa_nil)) pe_int) pa_nil)))))) pa_nil))))))) (pss_one (ps_ret pe_bl)) pss_nil)
    (pss_one (ps_ret (pe_cmpR (op_eqZ hr.units) (pe_callB (call_sumZ rfl) (by rfl) B_sum (by decide +kernel) (pa_cons (pe_lc (own := [("at", 3)]) rfl nd (pi_sq (pv 2)) (blkOk_by (own := [("at", 3)]) (N := ["lengths", "siding", "choice", "at"]) (sc := defScope s_is_fullest) (by decide +kernel)) (fun _ _ _ _ _ => (pg_name (i := 3) nd rfl (by first | exact .inl rfl | exact .inr rfl))) (fun _ _ _ _ _ => pts_nil) (fun _ _ _ _ _ => (pe_ix (ixK (r := rIx) (K := K) ix_seq (by rfl)) (pv 0) (pv 3) (fun _ _ => rfl)))) pa_nil)) (pe_call G_best_by (hr.mono (by first | decide | omega)) (by rfl) g_best_by kp_best_by b_best_by .nil pass0 (pa_cons (pv 0) (pa_cons (pv 1) pa_nil))) (nomark _)))))), fun rs L q x h => ?_⟩
    obtain ⟨v_lengths, v_siding, v_choice, rfl, hq⟩ := h
    refine finX (ca := ca) (enc := eB) (Lf := fun _ => L) (fun _ => Keeps.refl _) hq ?_
    refine (hv_callD (enc := eN) (ea_cons (ev_var rfl) (ea_cons (ev_var rfl) ea_nil)) (fun _ _ q => ⟨v_lengths, (eI v_siding), rfl, q⟩) rfl fun _ => ?_)
    refine (hv_grd fun g16 => ?_)
    refine (hv_narrow (tyT tyI) (fun z => [some (.dat (eD z)), some (.dat (eI v_siding)), some (.dat ((eT eI) v_choice)), none]) g16 fun v_lengths => ?_)
    refine (hv_grd fun g15 => ?_)
    refine (hv_if1 (et_or (et_not (et_b (ev_call (ea_cons (ev_var rfl) ea_nil) fun _ q => ⟨v_choice, rfl, accR_ok g15.1 q⟩))) fun h6 => (et_not (et_b (ev_cb (ea_cons (ev_lcA (e := eB) (ei_sq (ev_var rfl) seqT) (g15.2 h6).2 (fun x1 m2 a4 p3 n5 => ⟨_, eg_name, (ev_call (ea_cons (ev_var rfl) (ea_cons ev_int (ea_cons (ev_op (ev_cb (ea_cons (ev_var rfl) ea_nil) fun _ q => cd_lenT q) ev_int fun _ q => od_sub q) ea_nil))) fun _ q => ⟨(eI x1), (0 : Int), ((v_lengths.length : Int) - (1 : Int)), rfl, accR_ok ((g15.2 h6).1 x1 m2) q⟩)⟩) gown_name) ea_nil) fun _ q => cd_allE q)))) (fun h7 => ?_) fun h7 => ?_)
    · exact (hv_ret (v := false) ev_bl (rf_dat (enc := eB) (Lf := fun _ => L) (r := false) rfl (wk_of_sub (List.Sublist.refl _))))
    · refine (hv_grd fun g14 => ?_)
      exact (hv_ret (v := (((v_choice.map fun x9 : Int => (ix v_lengths x9)).sum == (m_best_by v_lengths v_siding).get))) (ev_op (ev_cb (ea_cons (ev_lcA (e := eI) (ei_sq (ev_var rfl) seqT) g14.2.1 (fun x9 m10 a12 p11 n13 => ⟨_, eg_name, (ev_op (ev_var rfl) (ev_var rfl) fun _ q => od_ixT (e := eI) (g14.1 x9 m10) q)⟩) gown_name) ea_nil) fun _ q => cd_sumZ_lst q) (ev_call (ea_cons (ev_var rfl) (ea_cons (ev_var rfl) ea_nil)) fun _ q => ⟨v_lengths, v_siding, rfl, accR_ok g14.2.2 q⟩) fun _ q => od_eq_int q) (rf_dat (enc := eB) (Lf := fun _ => L) (r := (((v_choice.map fun x9 : Int => (ix v_lengths x9)).sum == (m_best_by v_lengths v_siding).get))) rfl (wk_of_sub (List.Sublist.refl _))))
abbrev s__law_choices : Stmt := top 38
theorem sc__law_choices : FnScope ["n", "found", "at", "some"] ["n"] (defScope s__law_choices) := ⟨rfl, rfl, rfl, by decide +kernel, rfl, by decide +kernel, by decide +kernel⟩
abbrev ps__law_choices : List Str := ["n"]
theorem ok__law_choices {f : Addr} {fd : FuncData} (D : DefAt K mg "_law_choices" s__law_choices ps__law_choices f fd) (ca : Nat → Addr) (B_range : mg "range" = none) : Has P w K mg base 1 "_law_choices" ps__law_choices (d__law_choices ca) := by
  refine ⟨f, fd, D.g, D.F.kp, D.b, fn_z D.F sc__law_choices (fun rs L k x h => ?_) fun cdv A outer s H E hr => ?_⟩
  · obtain ⟨_, rfl, _⟩ := h
    rfl
  · have nd := sc__law_choices.nd
    refine ⟨_, (pss_cons (ps_set (i := 1) nd rfl (by first | exact .inl rfl | exact .inr rfl) (pe_lst (pa_cons (pe_tup pa_nil) pa_nil)))
    (pss_cons (ps_for PassesOwn.never rfl (pi_range1 (by rfl) B_range (pa_cons (pv 0) pa_nil)) (pg_name (i := 2) nd rfl (by first | exact .inl rfl | exact .inr rfl))
      (pss_one (ps_set (i := 1) nd rfl (by first | exact .inl rfl | exact .inr rfl) (pe_op op_addZ (pv 1) (pe_lc (own := [("some", 3)]) rfl nd (pi_sq (pv 1)) (blkOk_by (own := [("some", 3)]) (N := ["n", "found", "at", "some"]) (sc := defScope s__law_choices) (by decide +kernel)) (fun _ _ _ _ _ => (pg_name (i := 3) nd rfl (by first | exact .inl rfl | exact .inr rfl))) (fun _ _ _ _ _ => pts_nil) (fun _ _ _ _ _ => (pe_op (opK (r := rAddZ) (K := K) op_addZ (by rfl)) (pv 3) (pe_tup (pa_cons (pv 2) pa_nil)))))))))
    (pss_one (ps_ret (pv 1))))), fun rs L q x h => ?_⟩
    obtain ⟨v_n, rfl, hq⟩ := h
    refine fin0 (ca := ca) (enc := (eL (eT eI))) (Lf := fun _ => L) (X := fun _ L' => L' = L) (x := fun _ _ => False) (fun _ => Keeps.refl _) hq ?_
    refine (hv_set (e := (eL (eT eI))) (ev_lst (ds := ([([] : (List Int))] : List (List Int)).map (eT eI)) (ea_cons (ev_tup ea_nil (ds := []) rfl (szl _ (by decide))) ea_nil) rfl (szl _ (Nat.le_trans (Nat.le_of_eq (show _ = 1 from rfl)) (by decide)))) fun v_found => ?_)
    refine (hv_grd fun g9 => ?_)
    refine (hv_bind (fun (s : (List (List Int))) ε' L' => match s with | v_found => ∃ (u2 : Option Rs), ε' = [some (.dat (eI v_n)), some (.dat ((eL (eT eI)) v_found)), u2, none] ∧ L = L') (hv_for (fun (s : (List (List Int))) ε' L' => match s with | v_found => ∃ (u2 : Option Rs), ε' = [some (.dat (eI v_n)), some (.dat ((eL (eT eI)) v_found)), u2, none] ∧ L = L') (xs := (rngI 0 v_n)) (g0 := eI) (f := (fun (x1 : Int) (s : (List (List Int))) => match s with | v_found => (grd ((∀ x3 ∈ v_found, x3.length + ([x1] : List Int).length ≤ sizeLine) ∧ v_found.length < sizeLine ∧ v_found.length + (v_found.map fun x3 : (List Int) => (x3 ++ ([x1] : List Int))).length ≤ sizeLine) (lt (v_found ++ (v_found.map fun x3 : (List Int) => (x3 ++ ([x1] : List Int)))) fun v_found : (List (List Int)) => (.nx v_found))))) (ei_range1 (ev_var rfl) g9) ⟨_, rfl, rfl⟩ ?_) ?_)
    · rintro x1 v_found _ _ ⟨u2, rfl, rfl⟩
      refine ⟨_, eg_name, ?_⟩
      refine (hv_grd fun g8 => ?_)
      refine (hv_one ?_)
      refine (hv_set (e := (eL (eT eI))) (ev_op (ev_var rfl) (ev_lcA (e := (eT eI)) (ei_sq (ev_var rfl) seqL) g8.2.1 (fun x3 m4 a6 p5 n7 => ⟨_, eg_name, (ev_op (ev_var rfl) (ev_tup (ds := ([x1] : List Int).map eI) (ea_cons (ev_var rfl) ea_nil) rfl (szl _ (Nat.le_trans (Nat.le_of_eq (show _ = 1 from rfl)) (by decide)))) fun _ q => od_addT (g8.1 x3 m4) q)⟩) gown_name) fun _ q => od_addL g8.2.2 q) fun v_found => ?_)
      exact (hv_nx ⟨_, rfl, rfl⟩)
    · rintro v_found _ _ ⟨u2, rfl, rfl⟩
      exact (hv_ret (v := v_found) (ev_var rfl) (rf_dat (enc := (eL (eT eI))) (Lf := fun _ => L) (r := v_found) rfl (wk_of_sub (List.Sublist.refl _))))
abbrev s__law_told : Stmt := top 39
theorem sc__law_told : FnScope ["which", "lengths", "siding", "e"] ["which", "lengths", "siding"] (defScope s__law_told) := ⟨rfl, rfl, rfl, by decide +kernel, rfl, by decide +kernel, by decide +kernel⟩
abbrev ps__law_told : List Str := ["which", "lengths", "siding"]
theorem ok__law_told {f : Addr} {fd : FuncData} (D : DefAt K mg "_law_told" s__law_told ps__law_told f fd) (ca : Nat → Addr) {cY : Addr} {csA : List Addr} (g_YardError : mg "YardError" = some (.ref cY)) (H__law_flags : HasQ P w K mg base 1 "_law_flags" ps__law_flags (spFlags K csA)) (FL : ∀ c ∈ [0], FlagsAt K (ca c) csA (flV c)) (EX : ∀ c ∈ [0], PySem.W.exmOne K (.ref (ca c)) (.ref cY) = some true) (H_sums_up_to : HasX P w K mg base 4 "sums_up_to" ps_sums_up_to (d_sums_up_to ca)) (H_fullest : HasX P w K mg base 4 "fullest" ps_fullest (d_fullest ca)) (H_fullest_length : HasX P w K mg base 4 "fullest_length" ps_fullest_length (d_fullest_length ca)) (H_count_fullest : HasX P w K mg base 4 "count_fullest" ps_count_fullest (d_count_fullest ca)) (H_words_for : HasX P w K mg base 4 "words_for" ps_words_for (d_words_for ca)) : Has P w K mg base 5 "_law_told" ps__law_told (d__law_told ca) := by
  obtain ⟨f__law_flags, _, g__law_flags, kp__law_flags, b__law_flags, G__law_flags⟩ := id H__law_flags
  obtain ⟨f_sums_up_to, _, g_sums_up_to, kp_sums_up_to, b_sums_up_to, G_sums_up_to⟩ := id H_sums_up_to
  obtain ⟨_, _, g0_sums_up_to, kp0_sums_up_to, b0_sums_up_to, G0_sums_up_to⟩ := has0 H_sums_up_to
  obtain ⟨f_fullest, _, g_fullest, kp_fullest, b_fullest, G_fullest⟩ := id H_fullest
  obtain ⟨_, _, g0_fullest, kp0_fullest, b0_fullest, G0_fullest⟩ := has0 H_fullest
  obtain ⟨f_fullest_length, _, g_fullest_length, kp_fullest_length, b_fullest_length, G_fullest_length⟩ := id H_fullest_length
  obtain ⟨_, _, g0_fullest_length, kp0_fullest_length, b0_fullest_length, G0_fullest_length⟩ := has0 H_fullest_length
  obtain ⟨f_count_fullest, _, g_count_fullest, kp_count_fullest, b_count_fullest, G_count_fullest⟩ := id H_count_fullest
  obtain ⟨_, _, g0_count_fullest, kp0_count_fullest, b0_count_fullest, G0_count_fullest⟩ := has0 H_count_fullest
  obtain ⟨f_words_for, _, g_words_for, kp_words_for, b_words_for, G_words_for⟩ := id H_words_for
  obtain ⟨_, _, g0_words_for, kp0_words_for, b0_words_for, G0_words_for⟩ := has0 H_words_for
  have hKV : ∀ f sp, knD K (fun f d => (f = f_sums_up_to ∧ d = d_sums_up_to ca) ∨ (f = f_fullest ∧ d = d_fullest ca) ∨ (f = f_fullest_length ∧ d = d_fullest_length ca) ∨ (f = f_count_fullest ∧ d = d_count_fullest ca) ∨ (f = f_words_for ∧ d = d_words_for ca)) f sp → ∃ fd ps, FnOk P w K mg base (L2.CX P w) 4 f fd ps sp ∧ PySem.W.keepIn K (.ref f) = true ∧ Binds K fd ps [] := by
    rintro f sp ⟨d, hd, rfl⟩
    rcases hd with ⟨rfl, rfl⟩ | ⟨rfl, rfl⟩ | ⟨rfl, rfl⟩ | ⟨rfl, rfl⟩ | ⟨rfl, rfl⟩
    · exact ⟨_, _, G_sums_up_to.mono (by decide), kp_sums_up_to, b_sums_up_to⟩
    · exact ⟨_, _, G_fullest.mono (by decide), kp_fullest, b_fullest⟩
    · exact ⟨_, _, G_fullest_length.mono (by decide), kp_fullest_length, b_fullest_length⟩
    · exact ⟨_, _, G_count_fullest.mono (by decide), kp_count_fullest, b_count_fullest⟩
    · exact ⟨_, _, G_words_for.mono (by decide), kp_words_for, b_words_for⟩
  refine ⟨f, fd, D.g, D.F.kp, D.b, fn_z D.F sc__law_told (fun rs L k x h => ?_) fun cdv A outer s H E hr => ?_⟩
  · obtain ⟨_, _, _, rfl, _⟩ := h
    rfl
  · have nd := sc__law_told.nd
    refine ⟨_, (pss_one (ps_tryY (i := 3) (Wout := fun _ _ _ _ => False) rfl rfl nd rfl rfl ⟨rfl, by decide, .inl g_YardError⟩ takes0 (fun W pn xe tk _ => (pss_one (ps_ret (pe_callV hKV (hr.mono (by first | decide | omega)) (fun σ => passAt tk σ) (pe_ix (ixK (r := rIx) (K := K) ix_seq (by rfl)) (pe_lst (pa_cons (pe_glob (v := .ref f_sums_up_to) (by rfl) g_sums_up_to rfl) (pa_cons (pe_glob (v := .ref f_fullest) (by rfl) g_fullest rfl) (pa_cons (pe_glob (v := .ref f_fullest_length) (by rfl) g_fullest_length rfl) (pa_cons (pe_glob (v := .ref f_count_fullest) (by rfl) g_count_fullest rfl) (pa_cons (pe_glob (v := .ref f_words_for) (by rfl) g_words_for rfl) pa_nil)))))) (pv 0) (fun _ _ => rfl)) (pa_cons (pv 1) (pa_cons (pv 2) pa_nil)))))) (fun a oe cls d pn hz hf => (pss_one (ps_ret (pe_callQ G__law_flags (roomQ hr (by first | decide | omega)) hz hf (by rfl) g__law_flags kp__law_flags b__law_flags (pa_cons (pv 3) pa_nil))))))), fun rs L q x h => ?_⟩
    obtain ⟨v_which, v_lengths, v_siding, rfl, hq⟩ := h
    refine fin0 (ca := ca) (enc := eD) (Lf := fun _ => L) (X := fun _ L' => L' = L) (x := fun _ _ => False) (fun _ => Keeps.refl _) hq ?_
    refine (hv_tryAs (i := 3) (Wout := fun _ _ _ _ => False) (fun W kx => ?_) EX fun cc hcc aa => ?_)
    · refine (hv_sel (fun h5 => ?_) fun _ => ?_)
      · exact (hv_retV (ws := [.ref f_sums_up_to, .ref f_fullest, .ref f_fullest_length, .ref f_count_fullest, .ref f_words_for]) (i := 0) (f := f_sums_up_to) (d := d_sums_up_to ca) (enc := (eL eI)) (g := (eL eI)) (ea_cons ev_ref (ea_cons ev_ref (ea_cons ev_ref (ea_cons ev_ref (ea_cons ev_ref ea_nil))))) (szl _ (by simp)) (ev_as (ev_var rfl) (by rw [beq_iff_eq.mp h5])) rfl (Or.inl ⟨rfl, rfl⟩) (ea_cons (ev_var rfl) (ea_cons (ev_var rfl) ea_nil)) (fun _ _ q => ⟨v_lengths, v_siding, rfl, q⟩) ⟨rfl, rfl⟩ fun r => rf_dat (enc := eD) (Lf := fun _ => L) (r := (eL eI) r) rfl (wk_of_sub (List.Sublist.refl _)))
      · refine (hv_sel (fun h4 => ?_) fun _ => ?_)
        · exact (hv_retV (ws := [.ref f_sums_up_to, .ref f_fullest, .ref f_fullest_length, .ref f_count_fullest, .ref f_words_for]) (i := 1) (f := f_fullest) (d := d_fullest ca) (enc := (eT eI)) (g := (eT eI)) (ea_cons ev_ref (ea_cons ev_ref (ea_cons ev_ref (ea_cons ev_ref (ea_cons ev_ref ea_nil))))) (szl _ (by simp)) (ev_as (ev_var rfl) (by rw [beq_iff_eq.mp h4])) rfl (Or.inr (Or.inl ⟨rfl, rfl⟩)) (ea_cons (ev_var rfl) (ea_cons (ev_var rfl) ea_nil)) (fun _ _ q => ⟨v_lengths, v_siding, rfl, q⟩) ⟨rfl, rfl⟩ fun r => rf_dat (enc := eD) (Lf := fun _ => L) (r := (eT eI) r) rfl (wk_of_sub (List.Sublist.refl _)))
        · refine (hv_sel (fun h3 => ?_) fun _ => ?_)
          · exact (hv_retV (ws := [.ref f_sums_up_to, .ref f_fullest, .ref f_fullest_length, .ref f_count_fullest, .ref f_words_for]) (i := 2) (f := f_fullest_length) (d := d_fullest_length ca) (enc := eI) (g := eI) (ea_cons ev_ref (ea_cons ev_ref (ea_cons ev_ref (ea_cons ev_ref (ea_cons ev_ref ea_nil))))) (szl _ (by simp)) (ev_as (ev_var rfl) (by rw [beq_iff_eq.mp h3])) rfl (Or.inr (Or.inr (Or.inl ⟨rfl, rfl⟩))) (ea_cons (ev_var rfl) (ea_cons (ev_var rfl) ea_nil)) (fun _ _ q => ⟨v_lengths, v_siding, rfl, q⟩) ⟨rfl, rfl⟩ fun r => rf_dat (enc := eD) (Lf := fun _ => L) (r := eI r) rfl (wk_of_sub (List.Sublist.refl _)))
          · refine (hv_sel (fun h2 => ?_) fun _ => ?_)
            · exact (hv_retV (ws := [.ref f_sums_up_to, .ref f_fullest, .ref f_fullest_length, .ref f_count_fullest, .ref f_words_for]) (i := 3) (f := f_count_fullest) (d := d_count_fullest ca) (enc := eI) (g := eI) (ea_cons ev_ref (ea_cons ev_ref (ea_cons ev_ref (ea_cons ev_ref (ea_cons ev_ref ea_nil))))) (szl _ (by simp)) (ev_as (ev_var rfl) (by rw [beq_iff_eq.mp h2])) rfl (Or.inr (Or.inr (Or.inr (Or.inl ⟨rfl, rfl⟩)))) (ea_cons (ev_var rfl) (ea_cons (ev_var rfl) ea_nil)) (fun _ _ q => ⟨v_lengths, v_siding, rfl, q⟩) ⟨rfl, rfl⟩ fun r => rf_dat (enc := eD) (Lf := fun _ => L) (r := eI r) rfl (wk_of_sub (List.Sublist.refl _)))
            · refine (hv_sel (fun h1 => ?_) fun _ => ?_)
              · exact (hv_retV (ws := [.ref f_sums_up_to, .ref f_fullest, .ref f_fullest_length, .ref f_count_fullest, .ref f_words_for]) (i := 4) (f := f_words_for) (d := d_words_for ca) (enc := (eL eS)) (g := (eL eS)) (ea_cons ev_ref (ea_cons ev_ref (ea_cons ev_ref (ea_cons ev_ref (ea_cons ev_ref ea_nil))))) (szl _ (by simp)) (ev_as (ev_var rfl) (by rw [beq_iff_eq.mp h1])) rfl (Or.inr (Or.inr (Or.inr (Or.inr ⟨rfl, rfl⟩)))) (ea_cons (ev_var rfl) (ea_cons (ev_var rfl) ea_nil)) (fun _ _ q => ⟨v_lengths, v_siding, rfl, q⟩) ⟨rfl, rfl⟩ fun r => rf_dat (enc := eD) (Lf := fun _ => L) (r := (eL eS) r) rfl (wk_of_sub (List.Sublist.refl _)))
              · exact (fun P A => A.elim)
    · exact (hv_ret (v := ((eL eB) (flV cc))) (ev_flags (FL cc hcc) rfl) (rf_dat (enc := eD) (Lf := fun _ => L) (r := ((eL eB) (flV cc))) rfl (wk_of_sub (List.Sublist.refl _))))
abbrev s__law_is : Stmt := top 40
theorem sc__law_is : FnScope ["lengths", "siding", "choice", "e"] ["lengths", "siding", "choice"] (defScope s__law_is) := ⟨rfl, rfl, rfl, by decide +kernel, rfl, by decide +kernel, by decide +kernel⟩
abbrev ps__law_is : List Str := ["lengths", "siding", "choice"]
theorem ok__law_is {f : Addr} {fd : FuncData} (D : DefAt K mg "_law_is" s__law_is ps__law_is f fd) (ca : Nat → Addr) {cY : Addr} {csA : List Addr} (g_YardError : mg "YardError" = some (.ref cY)) (H__law_flags : HasQ P w K mg base 1 "_law_flags" ps__law_flags (spFlags K csA)) (FL : ∀ c ∈ [0], FlagsAt K (ca c) csA (flV c)) (EX : ∀ c ∈ [0], PySem.W.exmOne K (.ref (ca c)) (.ref cY) = some true) (H_is_fullest : HasX P w K mg base 4 "is_fullest" ps_is_fullest (d_is_fullest ca)) : Has P w K mg base 5 "_law_is" ps__law_is (d__law_is ca) := by
  obtain ⟨f_is_fullest, _, g_is_fullest, kp_is_fullest, b_is_fullest, G_is_fullest⟩ := id H_is_fullest
  obtain ⟨_, _, g0_is_fullest, kp0_is_fullest, b0_is_fullest, G0_is_fullest⟩ := has0 H_is_fullest
  obtain ⟨f__law_flags, _, g__law_flags, kp__law_flags, b__law_flags, G__law_flags⟩ := id H__law_flags
  refine ⟨f, fd, D.g, D.F.kp, D.b, fn_z D.F sc__law_is (fun rs L k x h => ?_) fun cdv A outer s H E hr => ?_⟩
  · obtain ⟨_, _, _, rfl, _⟩ := h
    rfl
  · have nd := sc__law_is.nd
    refine ⟨_, (pss_one (ps_tryY (i := 3) (Wout := fun _ _ _ _ => False) rfl rfl nd rfl rfl ⟨rfl, by decide, .inl g_YardError⟩ takes0 (fun W pn xe tk _ => (pss_one (ps_ret (pe_callS G_is_fullest (hr.mono (by first | decide | omega)) (by rfl) g_is_fullest kp_is_fullest b_is_fullest (fun σ => passAt tk σ) (pa_cons (pv 0) (pa_cons (pv 1) (pa_cons (pv 2) pa_nil))))))) (fun a oe cls d pn hz hf => (pss_one (ps_ret (pe_callQ G__law_flags (roomQ hr (by first | decide | omega)) hz hf (by rfl) g__law_flags kp__law_flags b__law_flags (pa_cons (pv 3) pa_nil))))))), fun rs L q x h => ?_⟩
    obtain ⟨v_lengths, v_siding, v_choice, rfl, hq⟩ := h
    refine fin0 (ca := ca) (enc := eD) (Lf := fun _ => L) (X := fun _ L' => L' = L) (x := fun _ _ => False) (fun _ => Keeps.refl _) hq ?_
    refine (hv_tryAs (i := 3) (Wout := fun _ _ _ _ => False) (fun W kx => ?_) EX fun cc hcc aa => ?_)
    · exact (hv_retCD (enc := eB) (g := eB) (ea_cons (ev_var rfl) (ea_cons (ev_var rfl) (ea_cons (ev_var rfl) ea_nil))) (fun _ _ q => ⟨v_lengths, v_siding, v_choice, rfl, q⟩) ⟨rfl, rfl⟩ fun r => rf_dat (enc := eD) (Lf := fun _ => L) (r := eB r) rfl (wk_of_sub (List.Sublist.refl _)))
    · exact (hv_ret (v := ((eL eB) (flV cc))) (ev_flags (FL cc hcc) rfl) (rf_dat (enc := eD) (Lf := fun _ => L) (r := ((eL eB) (flV cc))) rfl (wk_of_sub (List.Sublist.refl _))))
abbrev s_law : Stmt := top 41
theorem sc_law : FnScope ["script", "draws", "refused", "n", "some", "lengths", "k", "every", "sizes", "at", "choice", "turn", "siding", "fits", "most", "best", "words", "count", "told", "due", "which", "asked", "bad"] ["script"] (defScope s_law) := ⟨rfl, rfl, rfl, by decide +kernel, rfl, by decide +kernel, by decide +kernel⟩
abbrev ps_law : List Str := ["script"]
theorem ok_law {f : Addr} {fd : FuncData} (D : DefAt K mg "law" s_law ps_law f fd) (ca : Nat → Addr) (B_tuple : mg "tuple" = none) (B_range : mg "range" = none) (B_sum : mg "sum" = none) (B_max : mg "max" = none) (B_min : mg "min" = none) (B_len : mg "len" = none) (B_sorted : mg "sorted" = none) (B_set : mg "set" = none) (B_isinstance : mg "isinstance" = none) (B_int : mg "int" = none) (B_bool : mg "bool" = none) (H__law_draws : Has P w K mg base 1 "_law_draws" ps__law_draws (d_draws)) (H__law_pick : Has P w K mg base 2 "_law_pick" ps__law_pick (d_pick)) (H__law_choices : Has P w K mg base 1 "_law_choices" ps__law_choices (d__law_choices ca)) (H__law_same : Has P w K mg base 9 "_law_same" ps__law_same (d_same)) (H__law_told : Has P w K mg base 5 "_law_told" ps__law_told (d__law_told ca)) (H__law_take : Has P w K mg base 1 "_law_take" ps__law_take (d_take)) (H__law_is : Has P w K mg base 5 "_law_is" ps__law_is (d__law_is ca)) (hlaw : ∀ ds, m_law ds = .ok true) : FnOk P w K mg base CX0 10 f fd ps_law (lift K dLaw) := by
  obtain ⟨f__law_draws, _, g__law_draws, kp__law_draws, b__law_draws, G__law_draws⟩ := id H__law_draws
  obtain ⟨f__law_pick, _, g__law_pick, kp__law_pick, b__law_pick, G__law_pick⟩ := id H__law_pick
  obtain ⟨f__law_choices, _, g__law_choices, kp__law_choices, b__law_choices, G__law_choices⟩ := id H__law_choices
  obtain ⟨f__law_same, _, g__law_same, kp__law_same, b__law_same, G__law_same⟩ := id H__law_same
  obtain ⟨f__law_told, _, g__law_told, kp__law_told, b__law_told, G__law_told⟩ := id H__law_told
  obtain ⟨f__law_take, _, g__law_take, kp__law_take, b__law_take, G__law_take⟩ := id H__law_take
  obtain ⟨f__law_is, _, g__law_is, kp__law_is, b__law_is, G__law_is⟩ := id H__law_is
  refine fn_z D.F sc_law (fun rs L k x h => ?_) fun cdv A outer s H E hr => ?_
  · obtain ⟨b, rfl, _⟩ := h
    rfl
  · have nd := sc_law.nd
    refine ⟨_, (pss_cons (ps_set (i := 1) nd rfl (by first | exact .inl rfl | exact .inr rfl) (pe_call G__law_draws (hr.mono (by first | decide | omega)) (by rfl) g__law_draws kp__law_draws b__law_draws .nil pass0 (pa_cons (pv 0) pa_nil)))
    (pss_cons (ps_set (i := 2) nd rfl (by first | exact .inl rfl | exact .inr rfl) (pe_lst (pa_cons pe_bl (pa_cons pe_bl (pa_cons pe_bl (pa_cons pe_bl (pa_cons pe_bl pa_nil)))))))
    (pss_cons (ps_set (i := 3) nd rfl (by first | exact .inl rfl | exact .inr rfl) (pe_call G__law_pick (hr.mono (by first | decide | omega)) (by rfl) g__law_pick kp__law_pick b__law_pick .nil pass0 (pa_cons (pv 1) (pa_cons (pe_lst (pa_cons pe_int (pa_cons pe_int (pa_cons pe_int (pa_cons pe_int (pa_cons pe_int (pa_cons pe_int (pa_cons pe_int pa_nil)))))))) pa_nil))))
    (pss_cons (ps_set (i := 4) nd rfl (by first | exact .inl rfl | exact .inr rfl) (pe_lst (pa_cons (pe_op op_addZ pe_int (pe_call G__law_take (hr.mono (by first | decide | omega)) (by rfl) g__law_take kp__law_take b__law_take .nil pass0 (pa_cons (pv 1) (pa_cons pe_int pa_nil)))) (pa_cons (pe_op op_addZ pe_int (pe_call G__law_take (hr.mono (by first | decide | omega)) (by rfl) g__law_take kp__law_take b__law_take .nil pass0 (pa_cons (pv 1) (pa_cons pe_int pa_nil)))) (pa_cons pe_int (pa_cons (pe_op op_addZ pe_int (pe_call G__law_take (hr.mono (by first | decide | omega)) (by rfl) g__law_take kp__law_take b__law_take .nil pass0 (pa_cons (pv 1) (pa_cons pe_int pa_nil)))) pa_nil))))))
    (pss_cons (ps_set (i := 5) nd rfl (by first | exact .inl rfl | exact .inr rfl) (pe_callTy call_tupleZ (by rfl) B_tuple (by decide +kernel) (pa_cons (pe_lc (own := [("k", 6)]) rfl nd (pi_range1 (by rfl) B_range (pa_cons (pv 3) pa_nil)) (blkOk_by (own := [("k", 6)]) (N := ["script", "draws", "refused", "n", "some", "lengths", "k", "every", "sizes", "at", "choice", "turn", "siding", "fits", "most", "best", "words", "count", "told", "due", "which", "asked", "bad"]) (sc := defScope s_law) (by decide +kernel)) (fun _ _ _ _ _ => (pg_name (i := 6) nd rfl (by first | exact .inl rfl | exact .inr rfl))) (fun _ _ _ _ _ => pts_nil) (fun _ _ _ _ _ => (pe_call G__law_pick (hr.mono (by first | decide | omega)) (by rfl) g__law_pick kp__law_pick b__law_pick .nil pass0 (pa_cons (pv 1) (pa_cons (pv 4) pa_nil))))) pa_nil)))
    (pss_cons (ps_set (i := 7) nd rfl (by first | exact .inl rfl | exact .inr rfl) (pe_call G__law_choices (hr.mono (by first | decide | omega)) (by rfl) g__law_choices kp__law_choices b__law_choices .nil pass0 (pa_cons (pv 3) pa_nil)))
    (pss_cons (ps_set (i := 8) nd rfl (by first | exact .inl rfl | exact .inr rfl) (pe_lc (own := [("choice", 10)]) rfl nd (pi_sq (pv 7)) (blkOk_by (own := [("choice", 10)]) (N := ["script", "draws", "refused", "n", "some", "lengths", "k", "every", "sizes", "at", "choice", "turn", "siding", "fits", "most", "best", "words", "count", "told", "due", "which", "asked", "bad"]) (sc := defScope s_law) (by decide +kernel)) (fun _ _ _ _ _ => (pg_name (i := 10) nd rfl (by first | exact .inl rfl | exact .inr rfl))) (fun _ _ _ _ _ => pts_nil) (fun _ _ _ _ _ => (pe_callB (callK (r := rSumZ) (K := K) (call_sumZ rfl) (by rfl)) (by rfl) B_sum (by decide +kernel) (pa_cons (pe_lc (own := [("at", 9)]) rfl nd (pi_sqK (K := K) (by rfl) (pv 10)) (blkOk_by (own := [("at", 9)]) (N := ["script", "draws", "refused", "n", "some", "lengths", "k", "every", "sizes", "at", "choice", "turn", "siding", "fits", "most", "best", "words", "count", "told", "due", "which", "asked", "bad"]) (sc := { kind := PySem.ScopeKind.function, names := [ (PySem.Str.ofString ".0", PySem.NameKind.local), (PySem.Str.ofString "choice", PySem.NameKind.local), (PySem.Str.ofString "sum", PySem.NameKind.globalImplicit), (PySem.Str.ofString "lengths", PySem.NameKind.cell)], isGenerator := false, isCoroutine := false, more := [] : PySem.Scope }) (by decide +kernel)) (fun _ _ _ _ _ => (pg_name (i := 9) nd rfl (by first | exact .inl rfl | exact .inr rfl))) (fun _ _ _ _ _ => pts_nil) (fun _ _ _ _ _ => (pe_ix (ixK (r := rIx) (K := K) ix_seq (by rfl)) (pv 5) (pv 9) (fun _ _ => rfl)))) pa_nil)))))
    (pss_cons (ps_for PassesOwn.never rfl (pi_range1 (by rfl) B_range (pa_cons pe_int pa_nil)) (pg_name (i := 11) nd rfl (by first | exact .inl rfl | exact .inr rfl))
      (pss_cons (ps_set (i := 12) nd rfl (by first | exact .inl rfl | exact .inr rfl) (pe_callB (call_maxZ rfl) (by rfl) B_max (by decide +kernel) (pa_cons pe_int (pa_cons (pe_callB (call_minZ rfl) (by rfl) B_min (by decide +kernel) (pa_cons pe_int (pa_cons (pe_op op_addZ (pe_call G__law_pick (hr.mono (by first | decide | omega)) (by rfl) g__law_pick kp__law_pick b__law_pick .nil pass0 (pa_cons (pv 1) (pa_cons (pe_op op_addZ (pv 8) (pe_lst (pa_cons pe_int (pa_cons (pe_callB (call_sumZ rfl) (by rfl) B_sum (by decide +kernel) (pa_cons (pv 5) pa_nil)) (pa_cons pe_int pa_nil))))) pa_nil))) (pe_call G__law_pick (hr.mono (by first | decide | omega)) (by rfl) g__law_pick kp__law_pick b__law_pick .nil pass0 (pa_cons (pv 1) (pa_cons (pe_lst (pa_cons pe_int (pa_cons pe_int (pa_cons pe_int (pa_cons (pe_un un_neg pe_int) pa_nil))))) pa_nil)))) pa_nil))) pa_nil))))
      (pss_cons (ps_setLc (i := 13) (own := [("k", 6)]) rfl nd rfl rfl (sw_true rfl rfl rfl (by decide +kernel)) (pi_range1 (by rfl) B_range (pa_cons (pe_callB call_lenZ (by rfl) B_len (by decide +kernel) (pa_cons (pv 7) pa_nil)) pa_nil)) (blkOk_by (own := [("k", 6)]) (N := ["script", "draws", "refused", "n", "some", "lengths", "k", "every", "sizes", "at", "choice", "turn", "siding", "fits", "most", "best", "words", "count", "told", "due", "which", "asked", "bad"]) (sc := defScope s_law) (by decide +kernel)) (fun _ _ _ _ _ => (pg_name (i := 6) nd rfl (by first | exact .inl rfl | exact .inr rfl))) (fun _ _ _ _ _ => (pts_one (pt_cmpR op_leZ (pe_ix (ixK (r := rIx) (K := K) ix_seq (by rfl)) (pv 8) (pv 6) (fun _ _ => rfl)) (pv 12) (nomark _)))) (fun _ _ _ _ _ => (pv 6)))
      (pss_cons (ps_set (i := 14) nd rfl (by first | exact .inl rfl | exact .inr rfl) (pe_callB (call_maxZ rfl) (by rfl) B_max (by decide +kernel) (pa_cons (pe_lc (own := [("k", 6)]) rfl nd (pi_sq (pv 13)) (blkOk_by (own := [("k", 6)]) (N := ["script", "draws", "refused", "n", "some", "lengths", "k", "every", "sizes", "at", "choice", "turn", "siding", "fits", "most", "best", "words", "count", "told", "due", "which", "asked", "bad"]) (sc := defScope s_law) (by decide +kernel)) (fun _ _ _ _ _ => (pg_name (i := 6) nd rfl (by first | exact .inl rfl | exact .inr rfl))) (fun _ _ _ _ _ => pts_nil) (fun _ _ _ _ _ => (pe_ix (ixK (r := rIx) (K := K) ix_seq (by rfl)) (pv 8) (pv 6) (fun _ _ => rfl)))) pa_nil)))
      (pss_cons (ps_setLc (i := 15) (own := [("k", 6)]) rfl nd rfl rfl (sw_true rfl rfl rfl (by decide +kernel)) (pi_sq (pv 13)) (blkOk_by (own := [("k", 6)]) (N := ["script", "draws", "refused", "n", "some", "lengths", "k", "every", "sizes", "at", "choice", "turn", "siding", "fits", "most", "best", "words", "count", "told", "due", "which", "asked", "bad"]) (sc := defScope s_law) (by decide +kernel)) (fun _ _ _ _ _ => (pg_name (i := 6) nd rfl (by first | exact .inl rfl | exact .inr rfl))) (fun _ _ _ _ _ => (pts_one (pt_cmpR (opK (r := rEqZ) (K := K) (op_eqZ hr.units) (by rfl)) (pe_ix (ixK (r := rIx) (K := K) ix_seq (by rfl)) (pv 8) (pv 6) (fun _ _ => rfl)) (pv 14) (nomark _)))) (fun _ _ _ _ _ => (pe_ix (ixK (r := rIx) (K := K) ix_seq (by rfl)) (pv 7) (pv 6) (fun _ _ => rfl))))
      (pss_cons (ps_set (i := 16) nd rfl (by first | exact .inl rfl | exact .inr rfl) (pe_lst pa_nil))
      (pss_cons (ps_for PassesOwn.never rfl (pi_range1 (by rfl) B_range (pa_cons (pv 3) pa_nil)) (pg_name (i := 9) nd rfl (by first | exact .inl rfl | exact .inr rfl))
        (pss_cons (ps_set (i := 17) nd rfl (by first | exact .inl rfl | exact .inr rfl) (pe_callB call_lenZ (by rfl) B_len (by decide +kernel) (pa_cons (pe_lc (own := [("choice", 10)]) rfl nd (pi_sq (pv 15)) (blkOk_by (own := [("choice", 10)]) (N := ["script", "draws", "refused", "n", "some", "lengths", "k", "every", "sizes", "at", "choice", "turn", "siding", "fits", "most", "best", "words", "count", "told", "due", "which", "asked", "bad"]) (sc := defScope s_law) (by decide +kernel)) (fun _ _ _ _ _ => (pg_name (i := 10) nd rfl (by first | exact .inl rfl | exact .inr rfl))) (fun _ _ _ _ _ => (pts_one (pt_cmpR (opK (r := rInY) (K := K) (op_inY (inU hr)) (by rfl)) (pv 9) (pv 10) (by rfl)))) (fun _ _ _ _ _ => (pv 10))) pa_nil)))
        (pss_one (ps_expr (pe_bm PySem.F.plainAttrs_list PySem.F.slot_list_append PySem.F.type_list_append mt_append (pv 16) (pa_cons (pe_ix ix_seq (pe_lst (pa_cons (pe_ix ix_seq (pe_lst (pa_cons pe_str (pa_cons pe_str pa_nil))) (pe_callTy call_intZ (by rfl) B_int (by decide +kernel) (pa_cons (pe_cmpR (op_eqZ hr.units) (pv 17) pe_int (nomark _)) pa_nil)) (fun _ _ => rfl)) (pa_cons pe_str pa_nil))) (pe_callTy call_intZ (by rfl) B_int (by decide +kernel) (pa_cons (pe_cmpR (op_eqZ hr.units) (pv 17) (pe_callB call_lenZ (by rfl) B_len (by decide +kernel) (pa_cons (pv 15) pa_nil)) (nomark _)) pa_nil)) (fun _ _ => rfl)) pa_nil))))))
      (pss_cons (ps_set (i := 18) nd rfl (by first | exact .inl rfl | exact .inr rfl) (pe_call G__law_told (hr.mono (by first | decide | omega)) (by rfl) g__law_told kp__law_told b__law_told .nil pass0 (pa_cons pe_int (pa_cons (pv 5) (pa_cons (pv 12) pa_nil)))))
      (pss_cons (ps_set (i := 19) nd rfl (by first | exact .inl rfl | exact .inr rfl) (pe_lst (pa_cons (pe_callB (cr_sortSetY rfl) (by rfl) B_sorted (by decide +kernel) (pa_cons (pe_callTy (cr_setY rfl) (by rfl) B_set (by decide +kernel) (pa_cons (pe_lc (own := [("k", 6)]) rfl nd (pi_sq (pv 13)) (blkOk_by (own := [("k", 6)]) (N := ["script", "draws", "refused", "n", "some", "lengths", "k", "every", "sizes", "at", "choice", "turn", "siding", "fits", "most", "best", "words", "count", "told", "due", "which", "asked", "bad"]) (sc := defScope s_law) (by decide +kernel)) (fun _ _ _ _ _ => (pg_name (i := 6) nd rfl (by first | exact .inl rfl | exact .inr rfl))) (fun _ _ _ _ _ => pts_nil) (fun _ _ _ _ _ => (pe_ix (ixK (r := rIx) (K := K) ix_seq (by rfl)) (pv 8) (pv 6) (fun _ _ => rfl)))) pa_nil)) pa_nil)) (pa_cons (pv 14) (pa_cons (pe_callB call_lenZ (by rfl) B_len (by decide +kernel) (pa_cons (pv 15) pa_nil)) (pa_cons (pv 16) pa_nil))))))
      (pss_cons (ps_if (pt_not (pt_val (pe_call G__law_same (hr.mono (by first | decide | omega)) (by rfl) g__law_same kp__law_same b__law_same .nil pass0 (pa_cons (pe_lc (own := [("which", 20)]) rfl nd (pi_sq (pe_lst (pa_cons pe_int (pa_cons pe_int (pa_cons pe_int (pa_cons pe_int pa_nil)))))) (blkOk_by (own := [("which", 20)]) (N := ["script", "draws", "refused", "n", "some", "lengths", "k", "every", "sizes", "at", "choice", "turn", "siding", "fits", "most", "best", "words", "count", "told", "due", "which", "asked", "bad"]) (sc := defScope s_law) (by decide +kernel)) (fun _ _ _ _ _ => (pg_name (i := 20) nd rfl (by first | exact .inl rfl | exact .inr rfl))) (fun _ _ _ _ _ => pts_nil) (fun _ _ _ _ _ => (pe_call G__law_told (hr.mono (by first | decide | omega)) (by rfl) g__law_told kp__law_told b__law_told .nil pass0 (pa_cons (pv 20) (pa_cons (pv 5) (pa_cons (pv 12) pa_nil)))))) (pa_cons (pv 19) pa_nil))))) (pss_one (ps_ret pe_bl)) pss_nil)
      (pss_cons (ps_if (PW.pt (pw_or (pt_not (pt_val (pe_callB call_isi (by rfl) B_isinstance (by decide +kernel) (pa_cons (pv 18) (pa_cons (pe_bltn (v := .ty "tuple") (by rfl) B_tuple (by decide +kernel) rfl) pa_nil))))) (pw_or (pt_cmpR (op_notInY (inU hr)) (pv 18) (pv 15) (by rfl)) (pw_or1 (pt_cmpR (op_neZ hr.units) (pe_lc (own := [("at", 9)]) rfl nd (pi_sq (pv 18)) (blkOk_by (own := [("at", 9)]) (N := ["script", "draws", "refused", "n", "some", "lengths", "k", "every", "sizes", "at", "choice", "turn", "siding", "fits", "most", "best", "words", "count", "told", "due", "which", "asked", "bad"]) (sc := defScope s_law) (by decide +kernel)) (fun _ _ _ _ _ => (pg_name (i := 9) nd rfl (by first | exact .inl rfl | exact .inr rfl))) (fun _ _ _ _ _ => (pts_one (pt_val (pe_callB (callK (r := rIsi) (K := K) call_isi (by rfl)) (by rfl) B_isinstance (by decide +kernel) (pa_cons (pv 9) (pa_cons (pe_bltn (v := .ty "bool") (by rfl) B_bool (by decide +kernel) rfl) pa_nil)))))) (fun _ _ _ _ _ => (pv 9))) (pe_lst pa_nil) (nomark _)))))) (pss_one (ps_ret pe_bl)) pss_nil)
      (pss_cons (ps_set (i := 21) nd rfl (by first | exact .inl rfl | exact .inr rfl) (pe_lst (pa_cons (pe_call G__law_pick (hr.mono (by first | decide | omega)) (by rfl) g__law_pick kp__law_pick b__law_pick .nil pass0 (pa_cons (pv 1) (pa_cons (pv 15) pa_nil))) (pa_cons (pe_call G__law_pick (hr.mono (by first | decide | omega)) (by rfl) g__law_pick kp__law_pick b__law_pick .nil pass0 (pa_cons (pv 1) (pa_cons (pv 7) pa_nil))) (pa_cons (pe_revT (pv 18)) (pa_cons (pe_op op_addZ (pv 18) (pe_slice sl_Z (pv 18) po_none (po_some pe_int))) (pa_cons (pe_op op_addZ (pv 18) (pe_tup (pa_cons (pv 3) pa_nil))) (pa_cons (pe_tup (pa_cons (pe_un un_neg pe_int) pa_nil)) (pa_cons (pe_callTy call_tupleZ (by rfl) B_tuple (by decide +kernel) (pa_cons (pe_lc (own := [("k", 6)]) rfl nd (pi_range1 (by rfl) B_range (pa_cons pe_int pa_nil)) (blkOk_by (own := [("k", 6)]) (N := ["script", "draws", "refused", "n", "some", "lengths", "k", "every", "sizes", "at", "choice", "turn", "siding", "fits", "most", "best", "words", "count", "told", "due", "which", "asked", "bad"]) (sc := defScope s_law) (by decide +kernel)) (fun _ _ _ _ _ => (pg_name (i := 6) nd rfl (by first | exact .inl rfl | exact .inr rfl))) (fun _ _ _ _ _ => pts_nil) (fun _ _ _ _ _ => (pe_call G__law_take (hr.mono (by first | decide | omega)) (by rfl) g__law_take kp__law_take b__law_take .nil pass0 (pa_cons (pv 1) (pa_cons (pe_op (opK (r := rAddZ) (K := K) op_addZ (by rfl)) (pv 3) pe_int) pa_nil))))) pa_nil)) pa_nil)))))))))
      (pss_one (ps_for PassesOwn.never rfl (pi_sq (pv 21)) (pg_name (i := 10) nd rfl (by first | exact .inl rfl | exact .inr rfl))
        (pss_one (ps_if (pt_not (pt_val (pe_call G__law_same (hr.mono (by first | decide | omega)) (by rfl) g__law_same kp__law_same b__law_same .nil pass0 (pa_cons (pe_call G__law_is (hr.mono (by first | decide | omega)) (by rfl) g__law_is kp__law_is b__law_is .nil pass0 (pa_cons (pv 5) (pa_cons (pv 12) (pa_cons (pv 10) pa_nil)))) (pa_cons (pe_cmpR (op_inY (inU hr)) (pv 10) (pv 15) (by rfl)) pa_nil))))) (pss_one (ps_ret pe_bl)) pss_nil))))))))))))))))
    (pss_cons (ps_set (i := 22) nd rfl (by first | exact .inl rfl | exact .inr rfl) (pe_call G__law_pick (hr.mono (by first | decide | omega)) (by rfl) g__law_pick kp__law_pick b__law_pick .nil pass0 (pa_cons (pv 1) (pa_cons (pe_lst (pa_cons pe_non (pa_cons (pe_lst (pa_cons pe_int pa_nil)) (pa_cons (pe_tup (pa_cons pe_int pa_nil)) (pa_cons (pe_tup (pa_cons pe_int pa_nil)) (pa_cons (pe_tup (pa_cons pe_bl pa_nil)) (pa_cons (pe_tup (pa_cons pe_str pa_nil)) (pa_cons (pe_op op_mulY (pe_tup (pa_cons pe_int pa_nil)) pe_int) (pa_cons pe_int pa_nil))))))))) pa_nil))))
    (pss_cons (ps_set (i := 18) nd rfl (by first | exact .inl rfl | exact .inr rfl) (pe_op op_addZ (pe_lc (own := [("which", 20)]) rfl nd (pi_range1 (by rfl) B_range (pa_cons pe_int pa_nil)) (blkOk_by (own := [("which", 20)]) (N := ["script", "draws", "refused", "n", "some", "lengths", "k", "every", "sizes", "at", "choice", "turn", "siding", "fits", "most", "best", "words", "count", "told", "due", "which", "asked", "bad"]) (sc := defScope s_law) (by decide +kernel)) (fun _ _ _ _ _ => (pg_name (i := 20) nd rfl (by first | exact .inl rfl | exact .inr rfl))) (fun _ _ _ _ _ => pts_nil) (fun _ _ _ _ _ => (pe_call G__law_told (hr.mono (by first | decide | omega)) (by rfl) g__law_told kp__law_told b__law_told .nil pass0 (pa_cons (pv 20) (pa_cons (pv 22) (pa_cons pe_int pa_nil)))))) (pe_lc (own := [("which", 20)]) rfl nd (pi_range1 (by rfl) B_range (pa_cons pe_int pa_nil)) (blkOk_by (own := [("which", 20)]) (N := ["script", "draws", "refused", "n", "some", "lengths", "k", "every", "sizes", "at", "choice", "turn", "siding", "fits", "most", "best", "words", "count", "told", "due", "which", "asked", "bad"]) (sc := defScope s_law) (by decide +kernel)) (fun _ _ _ _ _ => (pg_name (i := 20) nd rfl (by first | exact .inl rfl | exact .inr rfl))) (fun _ _ _ _ _ => pts_nil) (fun _ _ _ _ _ => (pe_call G__law_told (hr.mono (by first | decide | omega)) (by rfl) g__law_told kp__law_told b__law_told .nil pass0 (pa_cons (pv 20) (pa_cons (pv 5) (pa_cons (pe_call G__law_pick (hr.mono (by first | decide | omega)) (by rfl) g__law_pick kp__law_pick b__law_pick .nil pass0 (pa_cons (pv 1) (pa_cons (pe_lst (pa_cons (pe_un un_neg pe_int) (pa_cons pe_int pa_nil))) pa_nil))) pa_nil))))))))
    (pss_one (ps_ret (pe_call G__law_same (hr.mono (by first | decide | omega)) (by rfl) g__law_same kp__law_same b__law_same .nil pass0 (pa_cons (pe_op op_addZ (pv 18) (pe_lst (pa_cons (pe_call G__law_is (hr.mono (by first | decide | omega)) (by rfl) g__law_is kp__law_is b__law_is .nil pass0 (pa_cons (pv 22) (pa_cons pe_int (pa_cons (pe_tup pa_nil) pa_nil)))) (pa_cons (pe_call G__law_is (hr.mono (by first | decide | omega)) (by rfl) g__law_is kp__law_is b__law_is .nil pass0 (pa_cons (pv 5) (pa_cons (pe_un un_neg pe_int) (pa_cons (pe_tup pa_nil) pa_nil)))) (pa_cons (pe_call G__law_is (hr.mono (by first | decide | omega)) (by rfl) g__law_is kp__law_is b__law_is .nil pass0 (pa_cons (pv 5) (pa_cons pe_int (pa_cons (pe_tup pa_nil) pa_nil)))) pa_nil))))) (pa_cons (pe_op op_mulY (pe_lst (pa_cons (pv 2) pa_nil)) pe_int) pa_nil))))))))))))))), fun rs L q x h => ?_⟩
    obtain ⟨ns, rfl, hn, rfl, hq⟩ := h
    refine hs_seq (hs_asg (cp_call (ca_cons (cp_var rfl (ca_nil ⟨ns, rfl, hn, fun p_draws v_draws nin_p_draws => ?_⟩)))))
    have hA : AccR ca (m_law v_draws) (fun r => q (.dat (eB r)) ([] : Led)) fun _ => False := by
      rw [hlaw]
      exact hq
    refine fin1 (ca := ca) (enc := eB) (Lf := fun _ => ([] : Led)) (L := ([] : Led)) (X := fun _ L' => L' = ([] : Led)) (fun _ => Keeps.refl _) hA ?_
    refine (hv_set (e := (eL eB)) (ev_lst (ds := ([true, false, false, false, false] : List Bool).map eB) (ea_cons ev_bl (ea_cons ev_bl (ea_cons ev_bl (ea_cons ev_bl (ea_cons ev_bl ea_nil))))) rfl (szl _ (Nat.le_trans (Nat.le_of_eq (show _ = 5 from rfl)) (by decide)))) fun v_refused => ?_)
    refine (hv_grd fun g147 => ?_)
    refine (hv_set (e := eI) (ev_pickL (e := eI) (L2 := (plus ([] : Led) p_draws ((tkD v_draws).map natD))) rfl (ev_lst (ds := ([(0 : Int), (1 : Int), (2 : Int), (4 : Int), (6 : Int), (7 : Int), (9 : Int)] : List Int).map eI) (ea_cons ev_int (ea_cons ev_int (ea_cons ev_int (ea_cons ev_int (ea_cons ev_int (ea_cons ev_int (ea_cons ev_int ea_nil))))))) rfl (szl _ (Nat.le_trans (Nat.le_of_eq (show _ = 7 from rfl)) (by decide)))) plus_mem g147 (by rw [up_plus (nin_of nin_p_draws (by simp [plus, plusM, Led.ks]))])) fun v_n => ?_)
    refine (hv_ltL (Lf := fun v_draws : List Nat => (plus ([] : Led) p_draws (v_draws.map natD))) fun v_draws => ?_)
    refine (hv_set (e := (eL eI)) (ev_lst (ds := ([((1 : Int) + (tkV v_draws (9 : Int))), ((1 : Int) + (tkV (tkD v_draws) (9 : Int))), (1000 : Int), ((1 : Int) + (tkV (tkD (tkD v_draws)) (30 : Int)))] : List Int).map eI) (ea_cons (ev_op ev_int (ev_take (L2 := (plus ([] : Led) p_draws ((tkD v_draws).map natD))) rfl ev_int plus_mem (by decide) (by rw [up_plus (nin_of nin_p_draws (by simp [plus, plusM, Led.ks]))])) fun _ q => od_add_int q) (ea_cons (ev_op ev_int (ev_take (L2 := (plus ([] : Led) p_draws ((tkD (tkD v_draws)).map natD))) rfl ev_int plus_mem (by decide) (by rw [up_plus (nin_of nin_p_draws (by simp [plus, plusM, Led.ks]))])) fun _ q => od_add_int q) (ea_cons ev_int (ea_cons (ev_op ev_int (ev_take (L2 := (plus ([] : Led) p_draws ((tkD (tkD (tkD v_draws))).map natD))) rfl ev_int plus_mem (by decide) (by rw [up_plus (nin_of nin_p_draws (by simp [plus, plusM, Led.ks]))])) fun _ q => od_add_int q) ea_nil)))) rfl (szl _ (Nat.le_trans (Nat.le_of_eq (show _ = 4 from rfl)) (by decide)))) fun v_some => ?_)
    refine (hv_ltL (Lf := fun v_draws : List Nat => (plus ([] : Led) p_draws (v_draws.map natD))) fun v_draws => ?_)
    refine (hv_grd fun g146 => ?_)
    refine (hv_set (e := (eT eI)) (ev_cb (ea_cons (ev_lcS (e := eI) (Lf := (fun d6 : List Nat => (plus ([] : Led) p_draws (d6.map natD)))) (f := (fun (x1 : Int) (d6 : List Nat) => ((pkV d6 v_some), (tkD d6)))) (by intro _ _; simp [plus, Led.ks, up_ks]) (ei_range1 (ev_var rfl) g146.1) g146.2.2 (fun x1 m2 d6 a4 p3 n5 => ⟨_, eg_name, (ev_pickL (e := eI) (L2 := (plus (plus ([] : Led) p_draws ((tkD d6).map natD)) p3 a4)) rfl (ev_var rfl) (plus_old plus_mem) (g146.2.1 x1 m2 d6) (by rw [up_plus_ne (ne_of_nin n5 (Led.key plus_mem)), up_plus (nin_of nin_p_draws (by simp [plus, plusM, Led.ks]))]))⟩) gown_name) ea_nil) fun _ q => cd_tupL q) fun v_lengths => ?_)
    refine (hv_ltL (Lf := fun v_draws : List Nat => (plus ([] : Led) p_draws (v_draws.map natD))) fun v_draws => ?_)
    refine (hv_grd fun g145 => ?_)
    refine (hv_set (e := (eL (eT eI))) (ev_call (ea_cons (ev_var rfl) ea_nil) fun _ q => ⟨v_n, rfl, accR_ok g145 q⟩) fun v_every => ?_)
    refine (hv_grd fun g144 => ?_)
    refine (hv_set (e := (eL eI)) (ev_lcA (e := eI) (ei_sq (ev_var rfl) seqL) g144.2 (fun x7 m8 a10 p9 n11 => ⟨_, eg_name, (ev_cb (ea_cons (ev_lcA (e := eI) (ei_sq (ev_var rfl) seqT) (g144.1 x7 m8).2 (fun x12 m13 a15 p14 n16 => ⟨_, eg_name, (ev_op (ev_var rfl) (ev_var rfl) fun _ q => od_ixT (e := eI) ((g144.1 x7 m8).1 x12 m13) q)⟩) gown_name) ea_nil) fun _ q => cd_sumZ_lst q)⟩) gown_name) fun v_sizes => ?_)
    refine (hv_grd fun g143 => ?_)
    refine (hv_bind (fun (s : (List Nat)) ε' L' => match s with | v_draws => ∃ (u9 u10 u11 u12 u13 u14 u15 u16 u17 u18 u19 u21 : Option Rs), ε' = [some (.scr ns), some (.own p_draws), some (.dat ((eL eB) v_refused)), some (.dat (eI v_n)), some (.dat ((eL eI) v_some)), some (.dat ((eT eI) v_lengths)), none, some (.dat ((eL (eT eI)) v_every)), some (.dat ((eL eI) v_sizes)), u9, u10, u11, u12, u13, u14, u15, u16, u17, u18, u19, none, u21, none] ∧ (plus ([] : Led) p_draws (v_draws.map natD)) = L') (hv_for (fun (s : (List Nat)) ε' L' => match s with | v_draws => ∃ (u9 u10 u11 u12 u13 u14 u15 u16 u17 u18 u19 u21 : Option Rs), ε' = [some (.scr ns), some (.own p_draws), some (.dat ((eL eB) v_refused)), some (.dat (eI v_n)), some (.dat ((eL eI) v_some)), some (.dat ((eT eI) v_lengths)), none, some (.dat ((eL (eT eI)) v_every)), some (.dat ((eL eI) v_sizes)), u9, u10, u11, u12, u13, u14, u15, u16, u17, u18, u19, none, u21, none] ∧ (plus ([] : Led) p_draws (v_draws.map natD)) = L') (xs := (rngI 0 (5 : Int))) (g0 := eI) (f := (fun (x17 : Int) (s : (List Nat)) => match s with | v_draws => (grd (v_sizes.length + ([(0 : Int), v_lengths.sum, (20000 : Int)] : List Int).length ≤ sizeLine ∧ (v_sizes ++ ([(0 : Int), v_lengths.sum, (20000 : Int)] : List Int)) ≠ [] ∧ ([(0 : Int), (0 : Int), (1 : Int), (-1 : Int)] : List Int) ≠ []) (lt (if (if ((pkV v_draws (v_sizes ++ ([(0 : Int), v_lengths.sum, (20000 : Int)] : List Int))) + (pkV (tkD v_draws) ([(0 : Int), (0 : Int), (1 : Int), (-1 : Int)] : List Int))) < (20000 : Int) then ((pkV v_draws (v_sizes ++ ([(0 : Int), v_lengths.sum, (20000 : Int)] : List Int))) + (pkV (tkD v_draws) ([(0 : Int), (0 : Int), (1 : Int), (-1 : Int)] : List Int))) else (20000 : Int)) > (0 : Int) then (if ((pkV v_draws (v_sizes ++ ([(0 : Int), v_lengths.sum, (20000 : Int)] : List Int))) + (pkV (tkD v_draws) ([(0 : Int), (0 : Int), (1 : Int), (-1 : Int)] : List Int))) < (20000 : Int) then ((pkV v_draws (v_sizes ++ ([(0 : Int), v_lengths.sum, (20000 : Int)] : List Int))) + (pkV (tkD v_draws) ([(0 : Int), (0 : Int), (1 : Int), (-1 : Int)] : List Int))) else (20000 : Int)) else (0 : Int)) fun v_siding : Int => (lt (tkD (tkD v_draws)) fun v_draws : List Nat => (grd (bnd (v_every.length : Int) ∧ (∀ x19 ∈ (rngI 0 (v_every.length : Int)), okIx v_sizes x19) ∧ (rngI 0 (v_every.length : Int)).length < sizeLine) (lt (((rngI 0 (v_every.length : Int)).filter fun x19 : Int => (decide ((ix v_sizes x19) ≤ v_siding))).map fun x19 : Int => x19) fun v_fits : (List Int) => (grd ((∀ x25 ∈ v_fits, okIx v_sizes x25) ∧ v_fits.length < sizeLine ∧ 0 < (v_fits.map fun x25 : Int => (ix v_sizes x25)).length) (lt (maxI (v_fits.map fun x25 : Int => (ix v_sizes x25))) fun v_most : Int => (grd ((∀ x30 ∈ v_fits, okIx v_sizes x30 ∧ ((((ix v_sizes x30) == v_most)) = true → okIx v_every x30)) ∧ v_fits.length < sizeLine) (lt ((v_fits.filter fun x30 : Int => (((ix v_sizes x30) == v_most))).map fun x30 : Int => (ix v_every x30)) fun v_best : (List (List Int)) => (lt ([] : List Str) fun v_words : List Str => (grd (bnd v_n) (Ctl.bind (forC (rngI 0 v_n) (v_words : (List Str)) (fun (x36 : Int) (s : (List Str)) => match s with | v_words => (grd (v_best.length < sizeLine) (lt (((v_best.filter fun x38 : (List Int) => (decide (x36 ∈ x38))).map fun x38 : (List Int) => x38).length : Int) fun v_count : Int => (grd (okIx ([("free" : Str), ("out" : Str)] : List Str) (if ((v_count == (0 : Int))) = true then 1 else 0) ∧ okIx ([(ix ([("free" : Str), ("out" : Str)] : List Str) (if ((v_count == (0 : Int))) = true then 1 else 0)), ("sure" : Str)] : List Str) (if ((v_count == (v_best.length : Int))) = true then 1 else 0) ∧ v_words.length < sizeLine) (lt (v_words ++ [(ix ([(ix ([("free" : Str), ("out" : Str)] : List Str) (if ((v_count == (0 : Int))) = true then 1 else 0)), ("sure" : Str)] : List Str) (if ((v_count == (v_best.length : Int))) = true then 1 else 0))]) fun v_words : List Str => (.nx v_words)))))) : Ctl ((List Str)) _ _) fun v_words => (grd ((m__law_told (1 : Int) ((eT eI) v_lengths) v_siding).isOk = true) (lt (m__law_told (1 : Int) ((eT eI) v_lengths) v_siding).get fun v_told : PyData => (grd ((∀ x85 ∈ v_fits, okIx v_sizes x85) ∧ v_fits.length < sizeLine ∧ (v_fits.map fun x85 : Int => (ix v_sizes x85)).length + 1 < scanBound) (lt ([((eL eI) (usort (v_fits.map fun x85 : Int => (ix v_sizes x85)))), (eI v_most), (eI (v_best.length : Int)), ((eL eS) v_words)] : List PyData) fun v_due : (List PyData) => (grd ((∀ x90 ∈ ([(0 : Int), (2 : Int), (3 : Int), (4 : Int)] : List Int), (m__law_told x90 ((eT eI) v_lengths) v_siding).isOk = true) ∧ ([(0 : Int), (2 : Int), (3 : Int), (4 : Int)] : List Int).length < sizeLine ∧ (m__law_same ((eL eD) (([(0 : Int), (2 : Int), (3 : Int), (4 : Int)] : List Int).map fun x90 : Int => (m__law_told x90 ((eT eI) v_lengths) v_siding).get)) ((eL eD) v_due)).isOk = true) (bif (!(m__law_same ((eL eD) (([(0 : Int), (2 : Int), (3 : Int), (4 : Int)] : List Int).map fun x90 : Int => (m__law_told x90 ((eT eI) v_lengths) v_siding).get)) ((eL eD) v_due)).get) then (.rt false) else (grd (((!(isD v_told "tuple")) = false → okEq v_told ∧ ((!inD v_told (v_best.map (eT eI))) = false → isSeqD v_told = true ∧ (itemsD v_told).length < sizeLine ∧ okEq ((eL eD) (((itemsD v_told).filter fun x97 : PyData => (isD x97 "bool")).map fun x97 : PyData => x97))))) (bif ((!(isD v_told "tuple")) || ((!inD v_told (v_best.map (eT eI))) || (!(((itemsD v_told).filter fun x97 : PyData => (isD x97 "bool")).map fun x97 : PyData => x97).isEmpty))) then (.rt false) else (grd (v_best ≠ [] ∧ v_every ≠ [] ∧ (tyT tyI).p v_told = true ∧ ((tyT tyI).f v_told).length + (Z.cutD ((tyT tyI).f v_told) none (some (1 : Int))).length ≤ sizeLine ∧ ((tyT tyI).f v_told).length + ([v_n] : List Int).length ≤ sizeLine ∧ bnd (3 : Int) ∧ (∀ x107 ∈ (rngI 0 (3 : Int)), ∀ d112 : List Nat, 0 < (v_n + (1 : Int))) ∧ (rngI 0 (3 : Int)).length < sizeLine) (lt ([(pkV v_draws v_best), (pkV (tkD v_draws) v_every), ((tyT tyI).f v_told).reverse, (((tyT tyI).f v_told) ++ (Z.cutD ((tyT tyI).f v_told) none (some (1 : Int)))), (((tyT tyI).f v_told) ++ ([v_n] : List Int)), ([(-1 : Int)] : List Int), (mapS (fun (x107 : Int) (d112 : List Nat) => ((tkV d112 (v_n + (1 : Int))), (tkD d112))) (rngI 0 (3 : Int)) (tkD (tkD v_draws))).1] : List (List Int)) fun v_asked : (List (List Int)) => (lt (mapS (fun (x107 : Int) (d112 : List Nat) => ((tkV d112 (v_n + (1 : Int))), (tkD d112))) (rngI 0 (3 : Int)) (tkD (tkD v_draws))).2 fun v_draws : List Nat => (Ctl.bind (forC v_asked (() : Unit) (fun (x113 : (List Int)) (s : Unit) => match s with | _ => (grd ((m__law_is ((eT eI) v_lengths) v_siding x113).isOk = true ∧ (m__law_same (m__law_is ((eT eI) v_lengths) v_siding x113).get (eB (inB x113 v_best))).isOk = true) (bif (!(m__law_same (m__law_is ((eT eI) v_lengths) v_siding x113).get (eB (inB x113 v_best))).get) then (.rt false) else (.nx ())))) : Ctl (Unit) _ _) fun _ => (.nx v_draws))))))))))))))))))))))))))) (ei_range1 ev_int g143) ⟨_, _, _, _, _, _, _, _, _, _, _, _, rfl, rfl⟩ ?_) ?_)
    · rintro x17 v_draws _ _ ⟨u9, u10, u11, u12, u13, u14, u15, u16, u17, u18, u19, u21, rfl, rfl⟩
      refine ⟨_, eg_name, ?_⟩
      refine (hv_grd fun g128 => ?_)
      refine (hv_set (e := eI) (ev_cb (ea_cons ev_int (ea_cons (ev_cb (ea_cons ev_int (ea_cons (ev_op (ev_pickL (e := eI) (L2 := (plus ([] : Led) p_draws ((tkD v_draws).map natD))) rfl (ev_op (ev_var rfl) (ev_lst (ds := ([(0 : Int), v_lengths.sum, (20000 : Int)] : List Int).map eI) (ea_cons ev_int (ea_cons (ev_cb (ea_cons (ev_var rfl) ea_nil) fun _ q => cd_sumZ_tup q) (ea_cons ev_int ea_nil))) rfl (szl _ (Nat.le_trans (Nat.le_of_eq (show _ = 3 from rfl)) (by decide)))) fun _ q => od_addL g128.1 q) plus_mem g128.2.1 (by rw [up_plus (nin_of nin_p_draws (by simp [plus, plusM, Led.ks]))])) (ev_pickL (e := eI) (L2 := (plus ([] : Led) p_draws ((tkD (tkD v_draws)).map natD))) rfl (ev_lst (ds := ([(0 : Int), (0 : Int), (1 : Int), (-1 : Int)] : List Int).map eI) (ea_cons ev_int (ea_cons ev_int (ea_cons ev_int (ea_cons (ev_un ev_int fun _ q => cd_neg q) ea_nil)))) rfl (szl _ (Nat.le_trans (Nat.le_of_eq (show _ = 4 from rfl)) (by decide)))) plus_mem g128.2.2 (by rw [up_plus (nin_of nin_p_draws (by simp [plus, plusM, Led.ks]))])) fun _ q => od_add_int q) ea_nil)) fun _ q => cd_min2 q) ea_nil)) fun _ q => cd_max2 q) fun v_siding => ?_)
      refine (hv_ltL (Lf := fun v_draws : List Nat => (plus ([] : Led) p_draws (v_draws.map natD))) fun v_draws => ?_)
      refine (hv_grd fun g127 => ?_)
      refine (hv_set (e := (eL eI)) (ev_lc (e := eI) (ei_range1 (ev_cb (ea_cons (ev_var rfl) ea_nil) fun _ q => cd_lenL q) g127.1) g127.2.2 (fun x19 m20 a22 p21 n23 => ⟨_, eg_name, (et_test (ev_op (ev_op (ev_var rfl) (ev_var rfl) fun _ q => od_ixL (e := eI) (g127.2.1 x19 m20) q) (ev_var rfl) fun _ q => od_le q)), fun h24 => (ev_var rfl)⟩) gown_name) fun v_fits => ?_)
      refine (hv_grd fun g126 => ?_)
      refine (hv_set (e := eI) (ev_cb (ea_cons (ev_lcA (e := eI) (ei_sq (ev_var rfl) seqL) g126.2.1 (fun x25 m26 a28 p27 n29 => ⟨_, eg_name, (ev_op (ev_var rfl) (ev_var rfl) fun _ q => od_ixL (e := eI) (g126.1 x25 m26) q)⟩) gown_name) ea_nil) fun _ q => cd_max_lst g126.2.2 q) fun v_most => ?_)
      refine (hv_grd fun g125 => ?_)
      refine (hv_set (e := (eL (eT eI))) (ev_lc (e := (eT eI)) (ei_sq (ev_var rfl) seqL) g125.2 (fun x30 m31 a33 p32 n34 => ⟨_, eg_name, (et_test (ev_op (ev_op (ev_var rfl) (ev_var rfl) fun _ q => od_ixL (e := eI) (g125.1 x30 m31).1 q) (ev_var rfl) fun _ q => od_eq_int q)), fun h35 => (ev_op (ev_var rfl) (ev_var rfl) fun _ q => od_ixL (e := (eT eI)) ((g125.1 x30 m31).2 h35) q)⟩) gown_name) fun v_best => ?_)
      refine (hv_own (e := eS) (ew_lst (ds := ([] : List Str).map eS) ea_nil rfl (szl _ (Nat.le_trans (Nat.le_of_eq (show _ = 0 from rfl)) (by decide)))) fun p_words v_words nin_p_words => have ne_p_draws_p_words := ne_of_nin (p := p_draws) nin_p_words (by simp [plus, plusM, Led.ks]); ?_)
      refine (hv_grd fun g124 => ?_)
      refine (hv_bind (fun (s : (List Str)) ε' L' => match s with | v_words => ∃ (u9 u17 : Option Rs), ε' = [some (.scr ns), some (.own p_draws), some (.dat ((eL eB) v_refused)), some (.dat (eI v_n)), some (.dat ((eL eI) v_some)), some (.dat ((eT eI) v_lengths)), none, some (.dat ((eL (eT eI)) v_every)), some (.dat ((eL eI) v_sizes)), u9, u10, some (.dat (eI x17)), some (.dat (eI v_siding)), some (.dat ((eL eI) v_fits)), some (.dat (eI v_most)), some (.dat ((eL (eT eI)) v_best)), some (.own p_words), u17, u18, u19, none, u21, none] ∧ (plus (plus ([] : Led) p_draws (v_draws.map natD)) p_words (v_words.map eS)) = L') (hv_for (fun (s : (List Str)) ε' L' => match s with | v_words => ∃ (u9 u17 : Option Rs), ε' = [some (.scr ns), some (.own p_draws), some (.dat ((eL eB) v_refused)), some (.dat (eI v_n)), some (.dat ((eL eI) v_some)), some (.dat ((eT eI) v_lengths)), none, some (.dat ((eL (eT eI)) v_every)), some (.dat ((eL eI) v_sizes)), u9, u10, some (.dat (eI x17)), some (.dat (eI v_siding)), some (.dat ((eL eI) v_fits)), some (.dat (eI v_most)), some (.dat ((eL (eT eI)) v_best)), some (.own p_words), u17, u18, u19, none, u21, none] ∧ (plus (plus ([] : Led) p_draws (v_draws.map natD)) p_words (v_words.map eS)) = L') (xs := (rngI 0 v_n)) (g0 := eI) (f := (fun (x36 : Int) (s : (List Str)) => match s with | v_words => (grd (v_best.length < sizeLine) (lt (((v_best.filter fun x38 : (List Int) => (decide (x36 ∈ x38))).map fun x38 : (List Int) => x38).length : Int) fun v_count : Int => (grd (okIx ([("free" : Str), ("out" : Str)] : List Str) (if ((v_count == (0 : Int))) = true then 1 else 0) ∧ okIx ([(ix ([("free" : Str), ("out" : Str)] : List Str) (if ((v_count == (0 : Int))) = true then 1 else 0)), ("sure" : Str)] : List Str) (if ((v_count == (v_best.length : Int))) = true then 1 else 0) ∧ v_words.length < sizeLine) (lt (v_words ++ [(ix ([(ix ([("free" : Str), ("out" : Str)] : List Str) (if ((v_count == (0 : Int))) = true then 1 else 0)), ("sure" : Str)] : List Str) (if ((v_count == (v_best.length : Int))) = true then 1 else 0))]) fun v_words : List Str => (.nx v_words))))))) (ei_range1 (ev_var rfl) g124) ⟨_, _, rfl, rfl⟩ ?_) ?_)
      · rintro x36 v_words _ _ ⟨u9, u17, rfl, rfl⟩
        refine ⟨_, eg_name, ?_⟩
        refine (hv_grd fun g45 => ?_)
        refine (hv_set (e := eI) (ev_cb (ea_cons (ev_lc (e := (eT eI)) (ei_sq (ev_var rfl) seqL) g45 (fun x38 m39 a41 p40 n42 => ⟨_, eg_name, (et_test (ev_op (ev_var rfl) (ev_var rfl) fun _ q => od_or1 (od_in_tup q))), fun h43 => (ev_var rfl)⟩) gown_name) ea_nil) fun _ q => cd_lenL q) fun v_count => ?_)
        refine (hv_grd fun g44 => ?_)
        refine (hv_one ?_)
        refine (hv_appE (e := eS) (Lf := fun l' => (plus (plus ([] : Led) p_draws (v_draws.map natD)) p_words (l'.map eS))) rfl (ev_op (ev_lst (ds := ([(ix ([("free" : Str), ("out" : Str)] : List Str) (if ((v_count == (0 : Int))) = true then 1 else 0)), ("sure" : Str)] : List Str).map eS) (ea_cons (ev_op (ev_lst (ds := ([("free" : Str), ("out" : Str)] : List Str).map eS) (ea_cons ev_str (ea_cons ev_str ea_nil)) rfl (szl _ (Nat.le_trans (Nat.le_of_eq (show _ = 2 from rfl)) (by decide)))) (ev_cb (ea_cons (ev_op (ev_var rfl) ev_int fun _ q => od_eq_int q) ea_nil) fun _ q => cd_int_bool q) fun _ q => od_ixL (e := eS) g44.1 q) (ea_cons ev_str ea_nil)) rfl (szl _ (Nat.le_trans (Nat.le_of_eq (show _ = 2 from rfl)) (by decide)))) (ev_cb (ea_cons (ev_op (ev_var rfl) (ev_cb (ea_cons (ev_var rfl) ea_nil) fun _ q => cd_lenL q) fun _ q => od_eq_int q) ea_nil) fun _ q => cd_int_bool q) fun _ q => od_ixL (e := eS) g44.2.1 q) plus_mem g44.2.2 (fun l' => by rw [up_plus (nin_of nin_p_words (by simp [plus, plusM, Led.ks]))]) fun v_words => ?_)
        exact (hv_nx ⟨_, _, rfl, rfl⟩)
      · rintro v_words _ _ ⟨u9, u17, rfl, rfl⟩
        refine (hv_wk (M2 := (plus ([] : Led) p_draws (v_draws.map natD))) (ε' := [some (.scr ns), some (.own p_draws), some (.dat ((eL eB) v_refused)), some (.dat (eI v_n)), some (.dat ((eL eI) v_some)), some (.dat ((eT eI) v_lengths)), none, some (.dat ((eL (eT eI)) v_every)), some (.dat ((eL eI) v_sizes)), none, none, some (.dat (eI x17)), some (.dat (eI v_siding)), some (.dat ((eL eI) v_fits)), some (.dat (eI v_most)), some (.dat ((eL (eT eI)) v_best)), some (.dat ((eL eS) v_words)), none, none, none, none, none, none]) (wk_of_sub (by exact List.sublist_append_left _ _)) (evwk_mk (.cons (.mk (.scr _)) (.cons (.mk (.own (Led.key plus_mem))) (.cons (.mk (.dat _)) (.cons (.mk (.dat _)) (.cons (.mk (.dat _)) (.cons (.mk (.dat _)) (.cons (.no _) (.cons (.mk (.dat _)) (.cons (.mk (.dat _)) (.cons (.no _) (.cons (.no _) (.cons (.mk (.dat _)) (.cons (.mk (.dat _)) (.cons (.mk (.dat _)) (.cons (.mk (.dat _)) (.cons (.mk (.dat _)) (.cons (.mk (.frz plus_mem (nin_of nin_p_words (by simp [plus, plusM, Led.ks])))) (.cons (.no _) (.cons (.no _) (.cons (.no _) (.cons (.no _) (.cons (.no _) (.cons (.no _) .nil)))))))))))))))))))))))) ?_)
        refine (hv_grd fun g123 => ?_)
        refine (hv_set (e := eD) (ev_call (ea_cons ev_int (ea_cons (ev_var rfl) (ea_cons (ev_var rfl) ea_nil))) fun _ q => ⟨(1 : Int), ((eT eI) v_lengths), v_siding, rfl, accR_ok g123 q⟩) fun v_told => ?_)
        refine (hv_grd fun g122 => ?_)
        refine (hv_set (e := (eL eD)) (ev_lst (ds := ([((eL eI) (usort (v_fits.map fun x85 : Int => (ix v_sizes x85)))), (eI v_most), (eI (v_best.length : Int)), ((eL eS) v_words)] : List PyData).map eD) (ea_cons (ev_sortSetI (ev_lcA (e := eI) (ei_sq (ev_var rfl) seqL) g122.2.1 (fun x85 m86 a88 p87 n89 => ⟨_, eg_name, (ev_op (ev_var rfl) (ev_var rfl) fun _ q => od_ixL (e := eI) (g122.1 x85 m86) q)⟩) gown_name) (.inl rfl) g122.2.2) (ea_cons (ev_var rfl) (ea_cons (ev_cb (ea_cons (ev_var rfl) ea_nil) fun _ q => cd_lenL q) (ea_cons (ev_var rfl) ea_nil)))) rfl (szl _ (Nat.le_trans (Nat.le_of_eq (show _ = 4 from rfl)) (by decide)))) fun v_due => ?_)
        refine (hv_grd fun g121 => ?_)
        refine (hv_if1 (et_not (et_b (ev_call (ea_cons (ev_lcA (e := eD) (ei_sq (ev_lst (ds := ([(0 : Int), (2 : Int), (3 : Int), (4 : Int)] : List Int).map eI) (ea_cons ev_int (ea_cons ev_int (ea_cons ev_int (ea_cons ev_int ea_nil)))) rfl (szl _ (Nat.le_trans (Nat.le_of_eq (show _ = 4 from rfl)) (by decide)))) seqL) g121.2.1 (fun x90 m91 a93 p92 n94 => ⟨_, eg_name, (ev_call (ea_cons (ev_var rfl) (ea_cons (ev_var rfl) (ea_cons (ev_var rfl) ea_nil))) fun _ q => ⟨x90, ((eT eI) v_lengths), v_siding, rfl, accR_ok (g121.1 x90 m91) q⟩)⟩) gown_name) (ea_cons (ev_var rfl) ea_nil)) fun _ q => ⟨((eL eD) (([(0 : Int), (2 : Int), (3 : Int), (4 : Int)] : List Int).map fun x90 : Int => (m__law_told x90 ((eT eI) v_lengths) v_siding).get)), ((eL eD) v_due), rfl, accR_ok g121.2.2 q⟩))) (fun h95 => ?_) fun h95 => ?_)
        · exact (hv_ret (v := false) ev_bl (rf_dat (enc := eB) (Lf := fun _ => ([] : Led)) (r := false) rfl (wk_of_sub (List.Sublist.trans (List.Sublist.refl _) (List.sublist_append_left _ _)))))
        · refine (hv_grd fun g120 => ?_)
          refine (hv_if1 (et_or (et_not (et_b (ev_cb (ea_cons (ev_var rfl) (ea_cons ev_ty ea_nil)) fun _ q => cd_isi (by decide) q))) fun h104 => (et_or (et_test (ev_op (ev_var rfl) (ev_var rfl) fun _ q => od_notInDL (g120 h104).1 ((plT plI).oks (by decide) _) q)) fun h103 => (et_test (ev_op (ev_lc (e := eD) (ei_sq (ds := (itemsD v_told).map eD) (ev_var rfl) (by rw [← map_idD]; exact (seqD ((g120 h104).2 h103).1))) ((g120 h104).2 h103).2.1 (fun x97 m98 a100 p99 n101 => ⟨_, eg_name, (et_b (ev_cb (ea_cons (ev_var rfl) (ea_cons ev_ty ea_nil)) fun _ q => cd_isi (by decide) q)), fun h102 => (ev_var rfl)⟩) gown_name) (ev_lst ea_nil (ds := []) rfl (szl _ (by decide))) fun _ q => od_neD ((g120 h104).2 h103).2.2 okNilL (by rw [eqv_nilL]; exact q))))) (fun h105 => ?_) fun h105 => ?_)
          · exact (hv_ret (v := false) ev_bl (rf_dat (enc := eB) (Lf := fun _ => ([] : Led)) (r := false) rfl (wk_of_sub (List.Sublist.trans (List.Sublist.refl _) (List.sublist_append_left _ _)))))
          · refine (hv_grd fun g119 => ?_)
            refine (hv_set (e := (eL (eT eI))) (ev_lst (ds := ([(pkV v_draws v_best), (pkV (tkD v_draws) v_every), ((tyT tyI).f v_told).reverse, (((tyT tyI).f v_told) ++ (Z.cutD ((tyT tyI).f v_told) none (some (1 : Int)))), (((tyT tyI).f v_told) ++ ([v_n] : List Int)), ([(-1 : Int)] : List Int), (mapS (fun (x107 : Int) (d112 : List Nat) => ((tkV d112 (v_n + (1 : Int))), (tkD d112))) (rngI 0 (3 : Int)) (tkD (tkD v_draws))).1] : List (List Int)).map (eT eI)) (ea_cons (ev_pickL (e := (eT eI)) (L2 := (plus ([] : Led) p_draws ((tkD v_draws).map natD))) rfl (ev_var rfl) plus_mem g119.1 (by rw [up_plus (nin_of nin_p_draws (by simp [plus, plusM, Led.ks]))])) (ea_cons (ev_pickL (e := (eT eI)) (L2 := (plus ([] : Led) p_draws ((tkD (tkD v_draws)).map natD))) rfl (ev_var rfl) plus_mem g119.2.1 (by rw [up_plus (nin_of nin_p_draws (by simp [plus, plusM, Led.ks]))])) (ea_cons (ev_revT (ev_cast (ev_var rfl) ((tyT tyI).ok _ g119.2.2.1))) (ea_cons (ev_op (ev_cast (ev_var rfl) ((tyT tyI).ok _ g119.2.2.1)) (ev_sl (ev_cast (ev_var rfl) ((tyT tyI).ok _ g119.2.2.1)) eo_none (eo_some ev_int) fun _ q => sd_tupE q) fun _ q => od_addT g119.2.2.2.1 q) (ea_cons (ev_op (ev_cast (ev_var rfl) ((tyT tyI).ok _ g119.2.2.1)) (ev_tup (ds := ([v_n] : List Int).map eI) (ea_cons (ev_var rfl) ea_nil) rfl (szl _ (Nat.le_trans (Nat.le_of_eq (show _ = 1 from rfl)) (by decide)))) fun _ q => od_addT g119.2.2.2.2.1 q) (ea_cons (ev_tup (ds := ([(-1 : Int)] : List Int).map eI) (ea_cons (ev_un ev_int fun _ q => cd_neg q) ea_nil) rfl (szl _ (Nat.le_trans (Nat.le_of_eq (show _ = 1 from rfl)) (by decide)))) (ea_cons (ev_cb (ea_cons (ev_lcS (e := eI) (Lf := (fun d112 : List Nat => (plus ([] : Led) p_draws (d112.map natD)))) (f := (fun (x107 : Int) (d112 : List Nat) => ((tkV d112 (v_n + (1 : Int))), (tkD d112)))) (by intro _ _; simp [plus, Led.ks, up_ks]) (ei_range1 ev_int g119.2.2.2.2.2.1) g119.2.2.2.2.2.2.2 (fun x107 m108 d112 a110 p109 n111 => ⟨_, eg_name, (ev_take (L2 := (plus (plus ([] : Led) p_draws ((tkD d112).map natD)) p109 a110)) rfl (ev_op (ev_var rfl) ev_int fun _ q => od_add_int q) (plus_old plus_mem) (g119.2.2.2.2.2.2.1 x107 m108 d112) (by rw [up_plus_ne (ne_of_nin n111 (Led.key plus_mem)), up_plus (nin_of nin_p_draws (by simp [plus, plusM, Led.ks]))]))⟩) gown_name) ea_nil) fun _ q => cd_tupL q) ea_nil))))))) rfl (szl _ (Nat.le_trans (Nat.le_of_eq (show _ = 7 from rfl)) (by decide)))) fun v_asked => ?_)
            refine (hv_ltL (Lf := fun v_draws : List Nat => (plus ([] : Led) p_draws (v_draws.map natD))) fun v_draws => ?_)
            refine (hv_one ?_)
            refine (hv_bind (fun (s : Unit) ε' L' => match s with | _ => ∃ (u10 : Option Rs), ε' = [some (.scr ns), some (.own p_draws), some (.dat ((eL eB) v_refused)), some (.dat (eI v_n)), some (.dat ((eL eI) v_some)), some (.dat ((eT eI) v_lengths)), none, some (.dat ((eL (eT eI)) v_every)), some (.dat ((eL eI) v_sizes)), none, u10, some (.dat (eI x17)), some (.dat (eI v_siding)), some (.dat ((eL eI) v_fits)), some (.dat (eI v_most)), some (.dat ((eL (eT eI)) v_best)), some (.dat ((eL eS) v_words)), none, some (.dat (eD v_told)), some (.dat ((eL eD) v_due)), none, some (.dat ((eL (eT eI)) v_asked)), none] ∧ (plus ([] : Led) p_draws (v_draws.map natD)) = L') (hv_for (fun (s : Unit) ε' L' => match s with | _ => ∃ (u10 : Option Rs), ε' = [some (.scr ns), some (.own p_draws), some (.dat ((eL eB) v_refused)), some (.dat (eI v_n)), some (.dat ((eL eI) v_some)), some (.dat ((eT eI) v_lengths)), none, some (.dat ((eL (eT eI)) v_every)), some (.dat ((eL eI) v_sizes)), none, u10, some (.dat (eI x17)), some (.dat (eI v_siding)), some (.dat ((eL eI) v_fits)), some (.dat (eI v_most)), some (.dat ((eL (eT eI)) v_best)), some (.dat ((eL eS) v_words)), none, some (.dat (eD v_told)), some (.dat ((eL eD) v_due)), none, some (.dat ((eL (eT eI)) v_asked)), none] ∧ (plus ([] : Led) p_draws (v_draws.map natD)) = L') (xs := v_asked) (g0 := (eT eI)) (f := (fun (x113 : (List Int)) (s : Unit) => match s with | _ => (grd ((m__law_is ((eT eI) v_lengths) v_siding x113).isOk = true ∧ (m__law_same (m__law_is ((eT eI) v_lengths) v_siding x113).get (eB (inB x113 v_best))).isOk = true) (bif (!(m__law_same (m__law_is ((eT eI) v_lengths) v_siding x113).get (eB (inB x113 v_best))).get) then (.rt false) else (.nx ()))))) (ei_sq (ev_var rfl) seqL) ⟨_, rfl, rfl⟩ ?_) ?_)
            · rintro x113 _ _ _ ⟨u10, rfl, rfl⟩
              refine ⟨_, eg_name, ?_⟩
              refine (hv_grd fun g118 => ?_)
              refine (hv_ifL (et_not (et_b (ev_call (ea_cons (ev_call (ea_cons (ev_var rfl) (ea_cons (ev_var rfl) (ea_cons (ev_var rfl) ea_nil))) fun _ q => ⟨((eT eI) v_lengths), v_siding, x113, rfl, accR_ok g118.1 q⟩) (ea_cons (ev_op (ev_var rfl) (ev_var rfl) fun _ q => od_inDL ((plT plI).ok (by decide) _) ((plT plI).oks (by decide) _) (by rw [(plT plI).mem]; exact q)) ea_nil)) fun _ q => ⟨(m__law_is ((eT eI) v_lengths) v_siding x113).get, (eB (inB x113 v_best)), rfl, accR_ok g118.2 q⟩))) (fun h115 => ?_) fun h115 => ?_)
              · exact (hv_ret (v := false) ev_bl (rf_dat (enc := eB) (Lf := fun _ => ([] : Led)) (r := false) rfl (wk_of_sub (List.Sublist.trans (List.Sublist.refl _) (List.sublist_append_left _ _)))))
              · exact (hv_nx ⟨_, rfl, rfl⟩)
            · rintro _ _ _ ⟨u10, rfl, rfl⟩
              exact (hv_nx ⟨_, _, _, _, _, _, _, _, _, _, _, _, rfl, rfl⟩)
    · rintro v_draws _ _ ⟨u9, u10, u11, u12, u13, u14, u15, u16, u17, u18, u19, u21, rfl, rfl⟩
      refine (hv_grd fun g142 => ?_)
      refine (hv_set (e := eD) (ev_pickL (e := eD) (L2 := (plus ([] : Led) p_draws ((tkD v_draws).map natD))) rfl (ev_lst (ds := ([(eN ()), ((eL eI) ([(5 : Int)] : List Int)), ((eT eI) ([(0 : Int)] : List Int)), ((eT eI) ([(1001 : Int)] : List Int)), ((eT eB) ([true] : List Bool)), ((eT eS) ([("5" : Str)] : List Str)), ((eT eI) (List.replicate ((61 : Int)).toNat ([(5 : Int)] : List Int)).flatten), (eI (5 : Int))] : List PyData).map eD) (ea_cons ev_non (ea_cons (ev_lst (ds := ([(5 : Int)] : List Int).map eI) (ea_cons ev_int ea_nil) rfl (szl _ (Nat.le_trans (Nat.le_of_eq (show _ = 1 from rfl)) (by decide)))) (ea_cons (ev_tup (ds := ([(0 : Int)] : List Int).map eI) (ea_cons ev_int ea_nil) rfl (szl _ (Nat.le_trans (Nat.le_of_eq (show _ = 1 from rfl)) (by decide)))) (ea_cons (ev_tup (ds := ([(1001 : Int)] : List Int).map eI) (ea_cons ev_int ea_nil) rfl (szl _ (Nat.le_trans (Nat.le_of_eq (show _ = 1 from rfl)) (by decide)))) (ea_cons (ev_tup (ds := ([true] : List Bool).map eB) (ea_cons ev_bl ea_nil) rfl (szl _ (Nat.le_trans (Nat.le_of_eq (show _ = 1 from rfl)) (by decide)))) (ea_cons (ev_tup (ds := ([("5" : Str)] : List Str).map eS) (ea_cons ev_str ea_nil) rfl (szl _ (Nat.le_trans (Nat.le_of_eq (show _ = 1 from rfl)) (by decide)))) (ea_cons (ev_op (ev_tup (ds := ([(5 : Int)] : List Int).map eI) (ea_cons ev_int ea_nil) rfl (szl _ (Nat.le_trans (Nat.le_of_eq (show _ = 1 from rfl)) (by decide)))) ev_int fun _ q => od_mulT g142.1 q) (ea_cons ev_int ea_nil)))))))) rfl (szl _ (Nat.le_trans (Nat.le_of_eq (show _ = 8 from rfl)) (by decide)))) plus_mem g142.2 (by rw [up_plus (nin_of nin_p_draws (by simp [plus, plusM, Led.ks]))])) fun v_bad => ?_)
      refine (hv_ltL (Lf := fun v_draws : List Nat => (plus ([] : Led) p_draws (v_draws.map natD))) fun v_draws => ?_)
      refine (hv_grd fun g141 => ?_)
      refine (hv_set (e := eD) (ev_op (ev_lcA (e := eD) (ei_range1 ev_int g141.1) g141.2.2.1 (fun x129 m130 a132 p131 n133 => ⟨_, eg_name, (ev_call (ea_cons (ev_var rfl) (ea_cons (ev_var rfl) (ea_cons ev_int ea_nil))) fun _ q => ⟨x129, v_bad, (5 : Int), rfl, accR_ok (g141.2.1 x129 m130) q⟩)⟩) gown_name) (ev_lcS (e := eD) (Lf := (fun d139 : List Nat => (plus ([] : Led) p_draws (d139.map natD)))) (f := (fun (x134 : Int) (d139 : List Nat) => ((m__law_told x134 ((eT eI) v_lengths) (pkV d139 ([(-1 : Int), (20001 : Int)] : List Int))).get, (tkD d139)))) (by intro _ _; simp [plus, Led.ks, up_ks]) (ei_range1 ev_int g141.1) g141.2.2.1 (fun x134 m135 d139 a137 p136 n138 => ⟨_, eg_name, (ev_call (ea_cons (ev_var rfl) (ea_cons (ev_var rfl) (ea_cons (ev_pickL (e := eI) (L2 := (plus (plus ([] : Led) p_draws ((tkD d139).map natD)) p136 a137)) rfl (ev_lst (ds := ([(-1 : Int), (20001 : Int)] : List Int).map eI) (ea_cons (ev_un ev_int fun _ q => cd_neg q) (ea_cons ev_int ea_nil)) rfl (szl _ (Nat.le_trans (Nat.le_of_eq (show _ = 2 from rfl)) (by decide)))) (plus_old plus_mem) (g141.2.2.2.1 x134 m135 d139).1 (by rw [up_plus_ne (ne_of_nin n138 (Led.key plus_mem)), up_plus (nin_of nin_p_draws (by simp [plus, plusM, Led.ks]))])) ea_nil))) fun _ q => ⟨x134, ((eT eI) v_lengths), (pkV d139 ([(-1 : Int), (20001 : Int)] : List Int)), rfl, accR_ok (g141.2.2.2.1 x134 m135 d139).2 q⟩)⟩) gown_name) fun _ q => od_addL g141.2.2.2.2 q) fun v_told => ?_)
      refine (hv_ltL (Lf := fun v_draws : List Nat => (plus ([] : Led) p_draws (v_draws.map natD))) fun v_draws => ?_)
      refine (hv_grd fun g140 => ?_)
      exact (hv_ret (v := (m__law_same ((eL eD) (((tyL tyD).f v_told) ++ ([(m__law_is v_bad (5 : Int) ([] : (List Int))).get, (m__law_is ((eT eI) v_lengths) (-1 : Int) ([] : (List Int))).get, (m__law_is ((eT eI) v_lengths) (20001 : Int) ([] : (List Int))).get] : List PyData))) ((eL (eL eB)) (List.replicate ((13 : Int)).toNat ([v_refused] : List (List Bool))).flatten)).get) (ev_call (ea_cons (ev_op (ev_cast (ev_var rfl) ((tyL tyD).ok _ g140.1)) (ev_lst (ds := ([(m__law_is v_bad (5 : Int) ([] : (List Int))).get, (m__law_is ((eT eI) v_lengths) (-1 : Int) ([] : (List Int))).get, (m__law_is ((eT eI) v_lengths) (20001 : Int) ([] : (List Int))).get] : List PyData).map eD) (ea_cons (ev_call (ea_cons (ev_var rfl) (ea_cons ev_int (ea_cons (ev_tup ea_nil (ds := []) rfl (szl _ (by decide))) ea_nil))) fun _ q => ⟨v_bad, (5 : Int), ([] : (List Int)), rfl, accR_ok g140.2.1 q⟩) (ea_cons (ev_call (ea_cons (ev_var rfl) (ea_cons (ev_un ev_int fun _ q => cd_neg q) (ea_cons (ev_tup ea_nil (ds := []) rfl (szl _ (by decide))) ea_nil))) fun _ q => ⟨((eT eI) v_lengths), (-1 : Int), ([] : (List Int)), rfl, accR_ok g140.2.2.1 q⟩) (ea_cons (ev_call (ea_cons (ev_var rfl) (ea_cons ev_int (ea_cons (ev_tup ea_nil (ds := []) rfl (szl _ (by decide))) ea_nil))) fun _ q => ⟨((eT eI) v_lengths), (20001 : Int), ([] : (List Int)), rfl, accR_ok g140.2.2.2.1 q⟩) ea_nil))) rfl (szl _ (Nat.le_trans (Nat.le_of_eq (show _ = 3 from rfl)) (by decide)))) fun _ q => od_addL g140.2.2.2.2.1 q) (ea_cons (ev_op (ev_lst (ds := ([v_refused] : List (List Bool)).map (eL eB)) (ea_cons (ev_var rfl) ea_nil) rfl (szl _ (Nat.le_trans (Nat.le_of_eq (show _ = 1 from rfl)) (by decide)))) ev_int fun _ q => od_mulL g140.2.2.2.2.2.1 q) ea_nil)) fun _ q => ⟨((eL eD) (((tyL tyD).f v_told) ++ ([(m__law_is v_bad (5 : Int) ([] : (List Int))).get, (m__law_is ((eT eI) v_lengths) (-1 : Int) ([] : (List Int))).get, (m__law_is ((eT eI) v_lengths) (20001 : Int) ([] : (List Int))).get] : List PyData))), ((eL (eL eB)) (List.replicate ((13 : Int)).toNat ([v_refused] : List (List Bool))).flatten), rfl, accR_ok g140.2.2.2.2.2.2 q⟩) (rf_dat (enc := eB) (Lf := fun _ => ([] : Led)) (r := (m__law_same ((eL eD) (((tyL tyD).f v_told) ++ ([(m__law_is v_bad (5 : Int) ([] : (List Int))).get, (m__law_is ((eT eI) v_lengths) (-1 : Int) ([] : (List Int))).get, (m__law_is ((eT eI) v_lengths) (20001 : Int) ([] : (List Int))).get] : List PyData))) ((eL (eL eB)) (List.replicate ((13 : Int)).toNat ([v_refused] : List (List Bool))).flatten)).get) rfl (wk_of_sub (List.Sublist.trans (List.Sublist.refl _) (List.sublist_append_left _ _)))))
end
end W02

set_option Elab.async false
set_option linter.all false
set_option maxRecDepth 100000
set_option maxHeartbeats 2000000
/-! which lengths some wagons come to, as bits -/
namespace Y
open PySem PySem.Spec PyProof.Rows L2 Z
theorem revInd {α : Type} {P : List α → Prop} (h0 : P []) (h1 : ∀ xs x, P xs → P (xs ++ [x])) (xs : List α) : P xs := by
  rw [← xs.reverse_reverse]
  induction xs.reverse with
  | nil => exact h0
  | cons a l ih =>
    rw [List.reverse_cons]
    exact h1 _ _ ih
/-- some of xs come to w -/
def Rch : List Int → Int → Prop
  | [], w => w = 0
  | x :: xs, w => Rch xs w ∨ Rch xs (w - x)
theorem rch_app : ∀ {xs ys : List Int} {w : Int}, Rch (xs ++ ys) w ↔ ∃ a, Rch xs a ∧ Rch ys (w - a)
  | [], ys, w => by
    constructor
    · intro h
      exact ⟨0, rfl, by rw [Int.sub_zero]; exact h⟩
    · intro ⟨a, h1, h2⟩
      have h1 : a = 0 := h1
      rw [h1, Int.sub_zero] at h2
      exact h2
  | x :: xs, ys, w => by
    show Rch (xs ++ ys) w ∨ Rch (xs ++ ys) (w - x) ↔ ∃ a, (Rch xs a ∨ Rch xs (a - x)) ∧ Rch ys (w - a)
    rw [rch_app, rch_app]
    constructor
    · rintro (⟨a, h1, h2⟩ | ⟨a, h1, h2⟩)
      · exact ⟨a, .inl h1, h2⟩
      · refine ⟨a + x, .inr ?_, ?_⟩
        · rw [show a + x - x = a by omega]
          exact h1
        · rw [show w - (a + x) = w - x - a by omega]
          exact h2
    · rintro ⟨a, h1 | h1, h2⟩
      · exact .inl ⟨a, h1, h2⟩
      · refine .inr ⟨a - x, h1, ?_⟩
        rw [show w - x - (a - x) = w - a by omega]
        exact h2
theorem rch_snoc {xs : List Int} {x w : Int} : Rch (xs ++ [x]) w ↔ Rch xs w ∨ Rch xs (w - x) := by
  rw [rch_app]
  constructor
  · rintro ⟨a, h1, h2 | h2⟩
    · have h2 : w - a = 0 := h2
      rw [show w = a by omega]
      exact .inl h1
    · have h2 : w - a - x = 0 := h2
      rw [show w - x = a by omega]
      exact .inr h1
  · rintro (h | h)
    · exact ⟨w, h, .inl (show w - w = 0 by omega)⟩
    · exact ⟨w - x, h, .inr (show w - (w - x) - x = 0 by omega)⟩
theorem rch_rev : ∀ {xs : List Int} {w : Int}, Rch xs.reverse w ↔ Rch xs w
  | [], w => Iff.rfl
  | x :: xs, w => by
    rw [List.reverse_cons, rch_snoc, rch_rev, rch_rev]
    rfl
theorem rch_nn : ∀ {xs : List Int} {w : Int}, (∀ x ∈ xs, 0 ≤ x) → Rch xs w → 0 ≤ w
  | [], w, _, h => by
    have h : w = 0 := h
    omega
  | x :: xs, w, hx, h => by
    have h1 := hx x (.head _)
    rcases h with h | h
    · exact rch_nn (fun y hy => hx y (.tail _ hy)) h
    · have := rch_nn (fun y hy => hx y (.tail _ hy)) h
      omega
theorem rch_zero : ∀ xs : List Int, Rch xs 0
  | [] => rfl
  | _ :: xs => .inl (rch_zero xs)
def mk1 (s m x : Nat) : Nat := (m ||| m * 2 ^ x) &&& (2 ^ (s + 1) - 1)
def mk (s : Nat) (xs : List Int) : Nat := xs.foldl (fun m x => mk1 s m x.toNat) 1
theorem mk_snoc {s : Nat} {xs : List Int} {x : Int} : mk s (xs ++ [x]) = mk1 s (mk s xs) x.toNat := by
  unfold mk
  rw [List.foldl_append]
  rfl
theorem mk_bit {s : Nat} {xs : List Int} : (∀ x ∈ xs, 0 ≤ x) → ∀ w : Nat, (mk s xs).testBit w = true ↔ w ≤ s ∧ Rch xs (w : Int) := by
  induction xs using revInd with
  | h0 =>
    intro _ w
    show (1 : Nat).testBit w = true ↔ w ≤ s ∧ (w : Int) = 0
    rw [Nat.testBit_one_eq_true_iff_self_eq_zero]
    omega
  | h1 xs x ih =>
    intro hx w
    have hx0 := hx x (by simp)
    have ih := ih fun y hy => hx y (List.mem_append_left _ hy)
    rw [mk_snoc, rch_snoc]
    unfold mk1
    rw [Nat.testBit_and, Nat.testBit_or, Nat.testBit_mul_two_pow, Nat.testBit_two_pow_sub_one, Bool.and_eq_true, Bool.or_eq_true, Bool.and_eq_true, decide_eq_true_eq, decide_eq_true_eq, ih, ih]
    constructor
    · rintro ⟨⟨_, h⟩ | ⟨h1, h2, h⟩, h3⟩
      · exact ⟨by omega, .inl h⟩
      · refine ⟨by omega, .inr ?_⟩
        rw [show (w : Int) - x = ((w - x.toNat : Nat) : Int) by omega]
        exact h
    · rintro ⟨h1, h | h⟩
      · exact ⟨.inl ⟨h1, h⟩, by omega⟩
      · have := rch_nn (fun y hy => hx y (List.mem_append_left _ hy)) h
        refine ⟨.inr ⟨by omega, by omega, ?_⟩, by omega⟩
        rw [show ((w - x.toNat : Nat) : Int) = (w : Int) - x by omega]
        exact h
theorem mk_lt {s : Nat} {xs : List Int} : mk s xs < 2 ^ (s + 1) := by
  induction xs using revInd with
  | h0 => exact Nat.one_lt_two_pow (by omega)
  | h1 xs x ih =>
    rw [mk_snoc]
    have h : 0 < 2 ^ (s + 1) := Nat.two_pow_pos _
    exact Nat.lt_of_le_of_lt Nat.and_le_right (by omega)
theorem mk_bits {s : Nat} {xs : List Int} : Builtin.Int.intBits ((mk s xs : Nat) : Int) ≤ s + 1 := intBits_le_iff.mpr (by rw [Int.natAbs_natCast]; exact mk_lt)
theorem mk1_int {s m : Nat} {x : Int} : Builtin.bitAnd (Builtin.bitOr (m : Int) ((m : Int) * 2 ^ x.toNat)) ((1 : Int) * 2 ^ ((s : Int) + 1).toNat - 1) = ((mk1 s m x.toNat : Nat) : Int) := by
  have e1 : (m : Int) * 2 ^ x.toNat = ((m * 2 ^ x.toNat : Nat) : Int) := by simp
  have e2 : (1 : Int) * 2 ^ ((s : Int) + 1).toNat - 1 = ((2 ^ (s + 1) - 1 : Nat) : Int) := by
    rw [show ((s : Int) + 1).toNat = s + 1 by omega, Int.one_mul]
    have h : 0 < 2 ^ (s + 1) := Nat.two_pow_pos _
    rw [Int.natCast_sub (by omega)]
    simp
  rw [e1, e2, bitOr_nn (Int.natCast_nonneg _) (Int.natCast_nonneg _), bitAnd_pp (Int.natCast_nonneg _) (Int.natCast_nonneg _)]
  rfl
theorem bit_int {m : Nat} {w : Int} (hw : 0 ≤ w) : (Builtin.bitAnd ((m : Int) / 2 ^ w.toNat) 1 == (1 : Int)) = m.testBit w.toNat := by
  have e1 : (m : Int) / 2 ^ w.toNat = ((m / 2 ^ w.toNat : Nat) : Int) := by simp
  rw [e1, bitAnd_pp (Int.natCast_nonneg _) (by decide), Nat.testBit_eq_decide_div_mod_eq, Int.toNat_natCast]
  show (((m / 2 ^ w.toNat &&& 1 : Nat) : Int) == 1) = _
  rw [Nat.and_one_is_mod]
  by_cases h : m / 2 ^ w.toNat % 2 = 1
  · rw [h]; rfl
  · rw [decide_eq_false h]
    have : m / 2 ^ w.toNat % 2 = 0 := by omega
    rw [this]; rfl
/-- the rows of marks -/
def tab (s : Nat) (xs : List Int) (n : Nat) : List Int := (List.range (n + 1)).map fun i => ((mk s (xs.take i) : Nat) : Int)
theorem tab_len {s n : Nat} {xs : List Int} : (tab s xs n).length = n + 1 := by simp [tab]
theorem tab_get {s n i : Nat} {xs : List Int} (h : i ≤ n) : (tab s xs n)[i]? = some ((mk s (xs.take i) : Nat) : Int) := by
  unfold tab
  rw [List.getElem?_map, List.getElem?_range (by omega)]
  rfl
theorem tab_ne {s n : Nat} {xs : List Int} : tab s xs n ≠ [] := fun h => by
  have := tab_len (s := s) (n := n) (xs := xs)
  rw [h] at this
  simp at this
theorem tab_last {s n : Nat} {xs : List Int} : ix (tab s xs n) (-1) = ((mk s (xs.take n) : Nat) : Int) := by
  rw [ix_last tab_ne, List.getLast_eq_getElem]
  have h := tab_get (s := s) (xs := xs) (Nat.le_refl n)
  have e : (tab s xs n).length - 1 = n := by rw [tab_len]; omega
  rw [List.getElem?_eq_some_iff] at h
  obtain ⟨h1, h2⟩ := h
  simp only [e]
  exact h2
theorem tab_succ {s n : Nat} {xs : List Int} : tab s xs (n + 1) = tab s xs n ++ [((mk s (xs.take (n + 1)) : Nat) : Int)] := by
  unfold tab
  rw [List.range_succ, List.map_append]
  rfl
end Y

set_option Elab.async false
set_option linter.all false
set_option maxRecDepth 100000
set_option maxHeartbeats 2000000
/-! the tables of marks -/
namespace W02
open PySem PySem.Spec PyProof.Rows L2 Z Y
theorem sz_big : 1000000 < sizeLine := by decide
theorem marks_eq {xs : List Int} {s : Nat} (hx : ∀ x ∈ xs, 0 ≤ x ∧ x ≤ 1000) (hn : xs.length ≤ 300) (hs : s ≤ 100000) : m_marks_by xs (s : Int) = .ok (tab s xs xs.length) := by
  unfold m_marks_by
  have c1 : CShl 1 ((s : Int) + 1) := ⟨by omega, by
    have : Builtin.Int.intBits 1 = 1 := by decide
    rw [this]
    omega⟩
  rw [grd_pos c1]
  show run ((Ctl.bind (forC xs [(1 : Int)] _) _ : Ctl Unit Unit (List Int))) = _
  rw [forC_fold (s0 := [(1 : Int)]) (fun i => tab s xs i) (by rfl)]
  · rfl
  · intro i x h
    have hm := hx x (List.mem_of_getElem? h)
    have hi : i < xs.length := by
      rw [List.getElem?_eq_some_iff] at h
      exact h.1
    dsimp only
    rw [tab_last, grd_pos]
    · show Ctl.nx _ = _
      rw [mk1_int, tab_succ, List.take_succ, h]
      show Ctl.nx (_ ++ [_]) = Ctl.nx (_ ++ [((mk s (xs.take i ++ [x]) : Nat) : Int)])
      rw [mk_snoc]
    · refine ⟨okIx_last tab_ne, ⟨hm.1, ?_⟩, ?_⟩
      · have := mk_bits (s := s) (xs := xs.take i)
        omega
      · rw [tab_len]
        have := sz_big
        omega
theorem has_eq {m : Nat} {w : Int} : m_has_sum (m : Int) w = .ok (decide (0 ≤ w) && m.testBit w.toNat) := by
  unfold m_has_sum
  rw [grd_pos fun h => of_decide_eq_true h]
  by_cases hw : 0 ≤ w
  · rw [bit_int hw]
    rfl
  · rw [decide_eq_false hw]
    rfl
theorem sums_eq {m s : Nat} (hs : s ≤ 100000) : m_sums_in (m : Int) (s : Int) = .ok ((rngI 0 ((s : Int) + 1)).filter fun w => m.testBit w.toNat) := by
  unfold m_sums_in
  rw [grd_pos ⟨bnd_of (by omega), fun x _ => by rw [has_eq]; rfl, by rw [rngI_len]; have := sz_big; omega⟩]
  show Res.ok _ = _
  rw [map_same]
  congr 1
  refine List.filter_congr fun x hx => ?_
  rw [rngI_mem] at hx
  rw [has_eq]
  show (decide (0 ≤ x) && _) = _
  rw [decide_eq_true hx.1]
  rfl
end W02

set_option Elab.async false
set_option linter.all false
set_option maxRecDepth 100000
set_option maxHeartbeats 2000000
/-! the fullest siding -/
namespace W02
open PySem PySem.Spec PyProof.Rows L2 Z Y
theorem rngI_asc {lo hi : Int} : (rngI lo hi).Pairwise (· < ·) := by
  rw [List.pairwise_iff_getElem]
  intro i j hi' hj hij
  have h1 := (rngI_get (List.getElem?_eq_getElem hi')).1
  have h2 := (rngI_get (List.getElem?_eq_getElem hj)).1
  omega
/-- the lengths that can be come to -/
def acc (s : Nat) (xs : List Int) : List Int := (rngI 0 ((s : Int) + 1)).filter fun w => (mk s xs).testBit w.toNat
theorem acc_asc {s : Nat} {xs : List Int} : (acc s xs).Pairwise (· < ·) := rngI_asc.filter _
theorem acc_mem {s : Nat} {xs : List Int} {w : Int} (hx : ∀ x ∈ xs, 0 ≤ x) : w ∈ acc s xs ↔ Rch xs w ∧ w ≤ s := by
  unfold acc
  rw [List.mem_filter, rngI_mem, mk_bit hx]
  constructor
  · rintro ⟨h1, h2, h3⟩
    rw [Int.toNat_of_nonneg h1.1] at h3
    exact ⟨h3, by omega⟩
  · rintro ⟨h1, h2⟩
    have h0 := rch_nn hx h1
    rw [Int.toNat_of_nonneg h0]
    exact ⟨by omega, by omega, h1⟩
theorem acc_ne {s : Nat} {xs : List Int} (hx : ∀ x ∈ xs, 0 ≤ x) : acc s xs ≠ [] := fun h => by
  have : (0 : Int) ∈ acc s xs := (acc_mem hx).mpr ⟨rch_zero _, by omega⟩
  rw [h] at this
  exact absurd this (by simp)
def bst (s : Nat) (xs : List Int) : Int := ix (acc s xs) (-1)
theorem asc_last {l : List Int} (h : l.Pairwise (· < ·)) (hn : l ≠ []) : ∀ x ∈ l, x ≤ l.getLast hn := by
  intro x hx
  have e := List.dropLast_concat_getLast hn
  rw [← e, List.mem_append] at hx
  rcases hx with hx | hx
  · rw [← e, List.pairwise_append] at h
    have := h.2.2 x hx _ (List.mem_singleton.mpr rfl)
    omega
  · rw [List.mem_singleton] at hx
    omega
theorem bst_mem {s : Nat} {xs : List Int} (hx : ∀ x ∈ xs, 0 ≤ x) : bst s xs ∈ acc s xs := by
  unfold bst
  rw [ix_last (acc_ne hx)]
  exact List.getLast_mem _
theorem bst_le {s : Nat} {xs : List Int} (hx : ∀ x ∈ xs, 0 ≤ x) {w : Int} (h : Rch xs w) (hw : w ≤ s) : w ≤ bst s xs := by
  unfold bst
  rw [ix_last (acc_ne hx)]
  exact asc_last acc_asc _ w ((acc_mem hx).mpr ⟨h, hw⟩)
theorem bst_rch {s : Nat} {xs : List Int} (hx : ∀ x ∈ xs, 0 ≤ x) : Rch xs (bst s xs) ∧ bst s xs ≤ s ∧ 0 ≤ bst s xs := by
  have h := (acc_mem hx).mp (bst_mem (s := s) hx)
  exact ⟨h.1, h.2, rch_nn hx h.1⟩
/-- the lengths that a law asks about -/
structure Fine (xs : List Int) : Prop where
  bd : ∀ x ∈ xs, 1 ≤ x ∧ x ≤ 1000
  len : xs.length ≤ 60
theorem Fine.nn {xs : List Int} (h : Fine xs) : ∀ x ∈ xs, 0 ≤ x := fun x hx => by have := h.bd x hx; omega
theorem Fine.b2 {xs : List Int} (h : Fine xs) : ∀ x ∈ xs, 0 ≤ x ∧ x ≤ 1000 := fun x hx => by have := h.bd x hx; omega
theorem marks_f {xs : List Int} {s : Nat} (h : Fine xs) (hs : s ≤ 100000) : m_marks_by xs (s : Int) = .ok (tab s xs xs.length) := marks_eq h.b2 (by have := h.len; omega) hs
theorem sums_f {xs : List Int} {s : Nat} (hs : s ≤ 100000) : m_sums_in ((mk s xs : Nat) : Int) (s : Int) = .ok (acc s xs) := sums_eq hs
theorem last_f {xs : List Int} {s : Nat} : ix (tab s xs xs.length) (-1) = ((mk s xs : Nat) : Int) := by rw [tab_last, List.take_length]
theorem best_f {xs : List Int} {s : Nat} (h : Fine xs) (hs : s ≤ 100000) : m_best_by xs (s : Int) = .ok (bst s xs) := by
  unfold m_best_by
  rw [marks_f h hs]
  show run (grd (_ ∧ okIx (tab s xs xs.length) (-1) ∧ (m_sums_in (ix (tab s xs xs.length) (-1)) (s : Int)).isOk = true ∧ okIx (m_sums_in (ix (tab s xs xs.length) (-1)) (s : Int)).get (-1)) (.rt (ix (m_sums_in (ix (tab s xs xs.length) (-1)) (s : Int)).get (-1)))) = _
  rw [last_f, sums_f hs, grd_pos ⟨rfl, okIx_last tab_ne, rfl, okIx_last (acc_ne h.nn)⟩]
  rfl
end W02

set_option Elab.async false
set_option linter.all false
set_option maxRecDepth 100000
set_option maxHeartbeats 4000000
/-! what is refused -/
namespace W02
open PySem PySem.Spec PyProof.Rows L2 Z Y
theorem within_eq (v : PyData) (lo hi : Int) : m_is_within v lo hi = .ok (wi v lo hi) := by
  unfold m_is_within
  cases v with
  | int i =>
    rw [grd_pos (by exact fun _ _ => rfl)]
    rfl
  | bool b =>
    rw [grd_pos (by exact fun _ h => by cases h)]
    rfl
  | _ =>
    rw [grd_pos (by exact fun h => by cases h)]
    rfl
theorem asc_eq {ns : List Int} (h : ns.length < 10000000) : m_are_ascending ns = .ok (decide (ns.Pairwise (· < ·))) := by
  unfold m_are_ascending
  rw [cut_tail, grd_pos (by rw [List.length_zip]; exact sz _ (by omega)), run_rt]
  congr 1
  rw [Bool.eq_iff_iff, decide_eq_true_eq]
  exact asc_all
/-- what are lengths -/
def lensB : PyData → Bool
  | .tuple ds => decide (ds.length ≤ 300) && ds.all fun d => wi d 1 1000
  | _ => false
theorem lens_eq (v : PyData) : m_are_lengths v = .ok (lensB v) := by
  unfold m_are_lengths
  cases v with
  | tuple ds =>
    rw [grd_pos (by exact fun _ => rfl)]
    by_cases h : ds.length ≤ 300
    · have e : ((!(isD (.tuple ds) "tuple")) || (decide ((300 : Int) < (lenD (.tuple ds))))) = false := by
        show decide ((300 : Int) < (ds.length : Int)) = false
        exact decide_eq_false (by omega)
      rw [e, cond_false, grd_pos (by exact ⟨rfl, fun x _ => by rw [within_eq]; rfl, sz _ (by show ds.length < _; omega)⟩), run_rt]
      congr 1
      show _ = (decide (ds.length ≤ 300) && _)
      rw [decide_eq_true h, Bool.true_and]
      show (itemsD (.tuple ds)).all _ = _
      refine congrArg (fun f => ds.all f) ?_
      funext d
      rw [within_eq]
      rfl
    · have e : ((!(isD (.tuple ds) "tuple")) || (decide ((300 : Int) < (lenD (.tuple ds))))) = true := by
        show decide ((300 : Int) < (ds.length : Int)) = true
        exact decide_eq_true (by omega)
      rw [e, cond_true, run_rt]
      congr 1
      show _ = (decide (ds.length ≤ 300) && _)
      rw [decide_eq_false h, Bool.false_and]
  | _ =>
    rw [grd_pos (by exact fun h => by cases h)]
    rfl
/-- what check_both lets pass -/
def bothB (v : PyData) (S : Int) : Bool := (lensB v && decide (lenD v ≤ 60)) && wi (.int S) 0 20000
theorem lensB_len {v : PyData} (h : lensB v = true) : hasLen v = true := by
  cases v with
  | tuple ds => rfl
  | _ => cases h
theorem check_eq (v : PyData) (S : Int) : m_check_both v (eI S) = bif bothB v S then .ok () else .ex 0 := by
  unfold m_check_both bothB
  rw [lens_eq, get_ok, within_eq, get_ok, grd_pos ⟨rfl, fun h => lensB_len (by simpa using h)⟩, grd_pos (by rfl)]
  have e : decide ((60 : Int) < lenD v) = !decide (lenD v ≤ 60) := by
    by_cases h : lenD v ≤ 60
    · rw [decide_eq_true h, decide_eq_false (by omega)]; rfl
    · rw [decide_eq_false h, decide_eq_true (by omega)]; rfl
  rw [e]
  show Y.runN (bif _ then _ else (bif !(wi (.int S) 0 20000) then _ else _)) = _
  cases lensB v <;> cases decide (lenD v ≤ 60) <;> cases wi (.int S) 0 20000 <;> rfl
theorem both_fine {xs : List Int} {s : Nat} (h : Fine xs) (hs : s ≤ 20000) : bothB (eT eI xs) (s : Int) = true := by
  unfold bothB
  rw [Bool.and_eq_true, Bool.and_eq_true]
  refine ⟨⟨?_, decide_eq_true ?_⟩, wi_int.mpr (by omega)⟩
  · show (decide ((xs.map eI).length ≤ 300) && (xs.map eI).all fun d => wi d 1 1000) = true
    rw [Bool.and_eq_true, List.length_map, List.all_map, List.all_eq_true, decide_eq_true_eq]
    exact ⟨by have := h.len; omega, fun x hx => wi_int.mpr (h.bd x hx)⟩
  · show ((xs.map eI).length : Int) ≤ 60
    rw [List.length_map]
    have := h.len
    omega
theorem check_f {xs : List Int} {s : Nat} (h : Fine xs) (hs : s ≤ 20000) : m_check_both (eT eI xs) (eI (s : Int)) = .ok () := by rw [check_eq, both_fine h hs]; rfl
theorem check_x {v : PyData} {S : Int} (h : bothB v S = false) : m_check_both v (eI S) = .ex 0 := by rw [check_eq, h]; rfl
theorem up_f {xs : List Int} {s : Nat} (h : Fine xs) (hs : s ≤ 20000) : m_sums_up_to (eT eI xs) (s : Int) = .ok (acc s xs) := by
  unfold m_sums_up_to
  rw [check_f h hs]
  show run (grd ((tyT tyI).p (eT eI xs) = true) (lt ((tyT tyI).f (eT eI xs)) _)) = _
  rw [grd_pos (tyTI_p xs), tyTI_f]
  show run (grd ((m_marks_by xs (s : Int)).isOk = true ∧ okIx (m_marks_by xs (s : Int)).get (-1) ∧ (m_sums_in (ix (m_marks_by xs (s : Int)).get (-1)) (s : Int)).isOk = true) (.rt (m_sums_in (ix (m_marks_by xs (s : Int)).get (-1)) (s : Int)).get)) = _
  rw [marks_f h (by omega), get_ok, last_f, sums_f (by omega), grd_pos ⟨rfl, okIx_last tab_ne, rfl⟩]
  rfl
theorem len_f {xs : List Int} {s : Nat} (h : Fine xs) (hs : s ≤ 20000) : m_fullest_length (eT eI xs) (s : Int) = .ok (bst s xs) := by
  unfold m_fullest_length
  rw [check_f h hs]
  show run (grd ((tyT tyI).p (eT eI xs) = true) (lt ((tyT tyI).f (eT eI xs)) _)) = _
  rw [grd_pos (tyTI_p xs), tyTI_f]
  show run (grd ((m_best_by xs (s : Int)).isOk = true) (.rt (m_best_by xs (s : Int)).get)) = _
  rw [best_f h (by omega), grd_pos (by rfl)]
  rfl
theorem refused {v : PyData} {S : Int} (h : bothB v S = false) : m_sums_up_to v S = .ex 0 ∧ m_fullest v S = .ex 0 ∧ m_fullest_length v S = .ex 0 ∧ m_count_fullest v S = .ex 0 ∧ m_words_for v S = .ex 0 ∧ ∀ cs, m_is_fullest v S cs = .ex 0 := by
  refine ⟨?_, ?_, ?_, ?_, ?_, fun cs => ?_⟩
  · unfold m_sums_up_to; rw [check_x h]; rfl
  · unfold m_fullest; rw [check_x h]; rfl
  · unfold m_fullest_length; rw [check_x h]; rfl
  · unfold m_count_fullest; rw [check_x h]; rfl
  · unfold m_words_for; rw [check_x h]; rfl
  · unfold m_is_fullest; rw [check_x h]; rfl
end W02

set_option Elab.async false
set_option linter.all false
set_option maxRecDepth 100000
set_option maxHeartbeats 2000000
/-! the fullest choice -/
namespace W02
open PySem PySem.Spec PyProof.Rows L2 Z Y
theorem rngD_get {n i : Nat} {x : Int} (h : (rngD ((n : Int) - 1) (-1))[i]? = some x) : i < n ∧ x = ((n - 1 - i : Nat) : Int) := by
  unfold rngD at h
  rw [List.getElem?_map, Option.map_eq_some_iff] at h
  obtain ⟨j, h1, h2⟩ := h
  rw [List.getElem?_eq_some_iff] at h1
  obtain ⟨h3, h4⟩ := h1
  rw [List.length_range] at h3
  rw [List.getElem_range] at h4
  omega
theorem rngD_len {n : Nat} : (rngD ((n : Int) - 1) (-1)).length = n := by
  unfold rngD
  rw [List.length_map, List.length_range]
  omega
/-- a choice of some of n -/
def Cho (n : Nat) (c : List Int) : Prop := c.Pairwise (· < ·) ∧ ∀ i ∈ c, 0 ≤ i ∧ i < (n : Int)
def sel (xs : List Int) (c : List Int) : Int := (c.map fun i => ix xs i).sum
theorem full_f {xs : List Int} {s : Nat} (h : Fine xs) (hs : s ≤ 20000) : ∃ c, m_fullest (eT eI xs) (s : Int) = .ok c ∧ Cho xs.length c ∧ sel xs c = bst s xs := by
  unfold m_fullest
  rw [check_f h hs]
  refine run_satE (R := fun c => Cho xs.length c ∧ sel xs c = bst s xs) ?_
  show Sat _ (grd ((tyT tyI).p (eT eI xs) = true) (lt ((tyT tyI).f (eT eI xs)) _))
  refine sat_grd (tyTI_p xs) ?_
  rw [tyTI_f]
  refine sat_lt ?_
  dsimp only
  rw [marks_f h (by omega)]
  refine sat_grd rfl (sat_lt ?_)
  rw [best_f h (by omega)]
  refine sat_grd rfl (sat_lt (sat_lt ?_))
  refine sat_grd ⟨bnd_of (by have := h.len; omega), bnd_of (by omega)⟩ ?_
  have hb := bst_rch (s := s) h.nn
  refine sat_bindI (fun p : Int × List Int => p.1 = 0 ∧ p.2.Pairwise (· > ·) ∧ (∀ i ∈ p.2, 0 ≤ i ∧ i < (xs.length : Int)) ∧ sel xs p.2 + p.1 = bst s xs) ?_ ?_
  · refine sat_for (fun k p => k ≤ xs.length ∧ Rch (xs.take (xs.length - k)) p.1 ∧ p.1 ≤ s ∧ p.2.length ≤ k ∧ p.2.Pairwise (· > ·) ∧ (∀ i ∈ p.2, ((xs.length - k : Nat) : Int) ≤ i ∧ i < (xs.length : Int)) ∧ sel xs p.2 + p.1 = bst s xs) ?_ ?_ ?_
    · refine ⟨by omega, ?_, hb.2.1, by simp [get_ok], List.Pairwise.nil, fun i hi => absurd hi (by simp), ?_⟩
      · rw [Nat.sub_zero, List.take_length]
        exact hb.1
      · show 0 + _ = _
        rw [Int.zero_add]
        rfl
    · rintro k x ⟨l, f⟩ hk ⟨h1, h2, h3, h4, h5, h6, h7⟩
      obtain ⟨hk1, rfl⟩ := rngD_get hk
      dsimp only at h1 h2 h3 h4 h5 h6 h7 ⊢
      have hj : xs.length - k = xs.length - 1 - k + 1 := by omega
      have e1 : ix (Res.ok (tab s xs xs.length)).get ((xs.length - 1 - k : Nat) : Int) = ((mk s (xs.take (xs.length - 1 - k)) : Nat) : Int) := ix_nat (tab_get (by omega))
      have hg : ∃ x, xs[xs.length - 1 - k]? = some x := ⟨xs[xs.length - 1 - k]'(by omega), List.getElem?_eq_getElem (by omega)⟩
      obtain ⟨x, hx⟩ := hg
      have hxm := h.bd x (List.mem_of_getElem? hx)
      have hnn : ∀ y ∈ xs.take (xs.length - 1 - k), 0 ≤ y := fun y hy => h.nn y (List.mem_of_mem_take hy)
      have hnn' : ∀ y ∈ xs.take (xs.length - k), 0 ≤ y := fun y hy => h.nn y (List.mem_of_mem_take hy)
      have hl0 := rch_nn hnn' h2
      rw [hj, List.take_add_one, hx] at h2
      have h2 : Rch (xs.take (xs.length - 1 - k) ++ [x]) l := h2
      rw [rch_snoc] at h2
      rw [e1, has_eq]
      refine sat_grd ⟨okIx_nat (by rw [get_ok, tab_len]; omega), rfl⟩ ?_
      rw [get_ok, decide_eq_true hl0, Bool.true_and]
      refine sat_if (fun hb => ?_) fun hb => ?_
      · have hno : ¬ Rch (xs.take (xs.length - 1 - k)) l := fun hr => by
          have := (mk_bit (s := s) hnn l.toNat).mpr ⟨by omega, by rw [Int.toNat_of_nonneg hl0]; exact hr⟩
          rw [this] at hb
          cases hb
        have h2 := h2.resolve_left hno
        refine sat_grd (sz _ (by have := h.len; omega)) (sat_lt (sat_grd (okIx_nat (by omega)) (sat_lt (sat_nx ?_))))
        rw [ix_nat hx]
        refine ⟨by omega, by rw [show xs.length - (k + 1) = xs.length - 1 - k by omega]; exact h2, by omega, by rw [List.length_append]; simp; omega, ?_, ?_, ?_⟩
        · rw [List.pairwise_append]
          refine ⟨h5, List.pairwise_singleton _ _, fun a ha b hb => ?_⟩
          rw [List.mem_singleton] at hb
          have := h6 a ha
          show b < a
          omega
        · intro i hi
          rw [List.mem_append, List.mem_singleton] at hi
          rcases hi with hi | hi
          · have := h6 i hi
            omega
          · omega
        · show sel xs (f ++ _) + (l - x) = _
          unfold sel at h7 ⊢
          rw [List.map_append, List.sum_append]
          simp only [List.map_cons, List.map_nil, List.sum_cons, List.sum_nil]
          rw [ix_nat hx]
          omega
      · have hb : (mk s (xs.take (xs.length - 1 - k))).testBit l.toNat = true := by
          cases e : (mk s (xs.take (xs.length - 1 - k))).testBit l.toNat
          · rw [e] at hb; cases hb
          · rfl
        have hr := ((mk_bit (s := s) hnn l.toNat).mp hb).2
        rw [Int.toNat_of_nonneg hl0] at hr
        refine sat_nx ⟨by omega, by rw [show xs.length - (k + 1) = xs.length - 1 - k by omega]; exact hr, h3, Nat.le_succ_of_le h4, h5, fun i hi => ?_, h7⟩
        have := h6 i hi
        omega
    · rintro ⟨l, f⟩ ⟨h1, h2, h3, h4, h5, h6, h7⟩
      rw [rngD_len, Nat.sub_self] at h2 
      rw [rngD_len, Nat.sub_self] at h6
      exact ⟨h2, h5, fun i hi => by have := h6 i hi; omega, h7⟩
  · rintro ⟨l, f⟩ ⟨h1, h5, h6, h7⟩
    dsimp only at h1 h5 h6 h7 ⊢
    refine sat_lt (sat_rt ⟨⟨List.pairwise_reverse.mpr h5, fun i hi => h6 i (List.mem_reverse.mp hi)⟩, ?_⟩)
    unfold sel at h7 ⊢
    rw [List.map_reverse, List.sum_reverse]
    omega
end W02

set_option Elab.async false
set_option linter.all false
set_option maxRecDepth 100000
set_option maxHeartbeats 2000000
/-! what is a fullest choice; the words -/
namespace W02
open PySem PySem.Spec PyProof.Rows L2 Z Y
def choB (n : Nat) (c : List Int) : Bool := decide (c.Pairwise (· < ·)) && c.all fun i => wi (.int i) 0 ((n : Int) - 1)
theorem choB_iff {n : Nat} {c : List Int} : choB n c = true ↔ Cho n c := by
  unfold choB Cho
  rw [Bool.and_eq_true, decide_eq_true_eq, List.all_eq_true]
  refine and_congr Iff.rfl ⟨fun h i hi => ?_, fun h i hi => ?_⟩
  · have := wi_int.mp (h i hi)
    omega
  · have := h i hi
    exact wi_int.mpr (by omega)
theorem isf_f {xs : List Int} {s : Nat} (h : Fine xs) (hs : s ≤ 20000) {c : List Int} (hc : c.length < 10000000) : m_is_fullest (eT eI xs) (s : Int) c = .ok (choB xs.length c && (sel xs c == bst s xs)) := by
  unfold m_is_fullest
  rw [check_f h hs]
  refine run_sat ?_
  show Sat _ (grd ((tyT tyI).p (eT eI xs) = true) (lt ((tyT tyI).f (eT eI xs)) _))
  refine sat_grd (tyTI_p xs) ?_
  rw [tyTI_f]
  refine sat_lt ?_
  have ew : (c.all fun x1 : Int => (m_is_within (eI x1) (0 : Int) ((xs.length : Int) - (1 : Int))).get) = c.all fun i => wi (.int i) 0 ((xs.length : Int) - 1) := by
    refine congrArg (fun f => c.all f) ?_
    funext d
    rw [within_eq]
    rfl
  rw [asc_eq hc, ew]
  refine sat_grd ⟨rfl, fun _ => ⟨fun x _ => by rw [within_eq]; rfl, sz _ (by omega)⟩⟩ ?_
  rw [get_ok]
  refine sat_if (fun hb => sat_rt ?_) fun hb => ?_
  · have : choB xs.length c = false := by
      unfold choB
      revert hb
      cases decide (c.Pairwise (· < ·)) <;> cases (c.all fun i => wi (.int i) 0 ((xs.length : Int) - 1)) <;> decide
    rw [this]
    rfl
  · have hc2 : choB xs.length c = true := by
      unfold choB
      revert hb
      cases decide (c.Pairwise (· < ·)) <;> cases (c.all fun i => wi (.int i) 0 ((xs.length : Int) - 1)) <;> decide
    have hco := choB_iff.mp hc2
    rw [best_f h (by omega)]
    refine sat_grd ⟨fun i hi => okIx_int (hco.2 i hi).1 (hco.2 i hi).2, sz _ (by omega), rfl⟩ (sat_rt ?_)
    rw [hc2, get_ok]
    rfl
theorem have_f {a b w : Int} {s : Nat} {ys zs : List Int} (ha : a = ((mk s ys : Nat) : Int)) (hb : b = ((mk s zs : Nat) : Int)) (hy : ∀ x ∈ ys, 0 ≤ x) (hz : ∀ x ∈ zs, 0 ≤ x) (hw : w ≤ s) (hs : s ≤ 100000) (hl : -100000 ≤ w) : ∃ r, m_have_sum a b w = .ok r ∧ (r = true ↔ Rch (ys ++ zs) w) := by
  subst ha hb
  unfold m_have_sum
  refine run_satE (R := fun r => r = true ↔ Rch (ys ++ zs) w) ?_
  by_cases hw0 : 0 ≤ w
  · refine sat_grd ⟨bnd_of (by omega), fun x _ => ⟨by rw [has_eq]; rfl, fun _ => by rw [has_eq]; rfl⟩, by rw [rngI_len]; have := sz_big; omega⟩ (sat_rt ?_)
    show (List.any _ _ = true) ↔ _
    rw [List.any_eq_true, rch_app]
    constructor
    · rintro ⟨x, hx, hp⟩
      rw [rngI_mem] at hx
      rw [has_eq, has_eq, get_ok, get_ok, decide_eq_true hx.1, decide_eq_true (by omega : 0 ≤ w - x), Bool.true_and, Bool.true_and, Bool.and_eq_true, mk_bit hy, mk_bit hz, Int.toNat_of_nonneg hx.1, Int.toNat_of_nonneg (by omega)] at hp
      exact ⟨x, hp.1.2, hp.2.2⟩
    · rintro ⟨x, h1, h2⟩
      have g1 := rch_nn hy h1
      have g2 := rch_nn hz h2
      refine ⟨x, rngI_mem.mpr (by omega), ?_⟩
      rw [has_eq, has_eq, get_ok, get_ok, decide_eq_true g1, decide_eq_true g2, Bool.true_and, Bool.true_and, Bool.and_eq_true, mk_bit hy, mk_bit hz, Int.toNat_of_nonneg g1, Int.toNat_of_nonneg g2]
      exact ⟨⟨by omega, h1⟩, by omega, h2⟩
  · rw [rngI_nil (by omega)]
    refine sat_grd ⟨bnd_of (by omega), fun x hx => absurd hx (by simp), sz _ (by simp)⟩ (sat_rt ?_)
    exact ⟨fun h => absurd h (by simp), fun h => absurd (rch_nn (fun x hx => (List.mem_append.mp hx).elim (hy x) (hz x)) h) hw0⟩
/-- all but one -/
def oth (xs : List Int) (i : Nat) : List Int := xs.take i ++ xs.drop (i + 1)
open Classical in
noncomputable def wrd (xs : List Int) (b : Int) (i : Nat) : Str := if Rch (oth xs i) (b - (xs[i]?).getD 0) then (if Rch (oth xs i) b then ("free" : Str) else ("sure" : Str)) else ("out" : Str)
theorem oth_nn {xs : List Int} (h : Fine xs) {i : Nat} : (∀ x ∈ xs.take i, 0 ≤ x) ∧ ∀ x ∈ xs.drop (i + 1), 0 ≤ x := ⟨fun x hx => h.nn x (List.mem_of_mem_take hx), fun x hx => h.nn x (List.mem_of_mem_drop hx)⟩
theorem rch_one {xs : List Int} {i : Nat} {x w : Int} (hx : xs[i]? = some x) : Rch xs w ↔ Rch (oth xs i) w ∨ Rch (oth xs i) (w - x) := by
  have e : xs = xs.take i ++ ([x] ++ xs.drop (i + 1)) := by
    rw [List.getElem?_eq_some_iff] at hx
    obtain ⟨h1, h2⟩ := hx
    rw [← h2, List.singleton_append, ← List.drop_eq_getElem_cons h1, List.take_append_drop]
  unfold oth
  rw [rch_app (xs := xs.take i), rch_app (xs := xs.take i)]
  constructor
  · intro h
    rw [e, rch_app] at h
    obtain ⟨a, h1, h2 | h2⟩ := h
    · exact .inl ⟨a, h1, h2⟩
    · refine .inr ⟨a, h1, ?_⟩
      rw [show w - x - a = w - a - x by omega]
      exact h2
  · intro h
    rw [e, rch_app]
    rcases h with ⟨a, h1, h2⟩ | ⟨a, h1, h2⟩
    · exact ⟨a, h1, .inl h2⟩
    · refine ⟨a, h1, .inr ?_⟩
      rw [show w - a - x = w - x - a by omega]
      exact h2
theorem words_f {xs : List Int} {s : Nat} (h : Fine xs) (hs : s ≤ 20000) : m_words_for (eT eI xs) (s : Int) = .ok ((List.range xs.length).map fun i => wrd xs (bst s xs) i) := by
  have hb := bst_rch (s := s) h.nn
  obtain ⟨b, eb⟩ : ∃ b : Nat, bst s xs = (b : Int) := ⟨(bst s xs).toNat, by omega⟩
  have hr : Fine xs.reverse := ⟨fun x hx => h.bd x (List.mem_reverse.mp hx), by rw [List.length_reverse]; exact h.len⟩
  unfold m_words_for
  rw [check_f h hs]
  refine run_sat ?_
  show Sat _ (grd ((tyT tyI).p (eT eI xs) = true) (lt ((tyT tyI).f (eT eI xs)) _))
  refine sat_grd (tyTI_p xs) ?_
  rw [tyTI_f]
  refine sat_lt ?_
  dsimp only
  rw [best_f h (by omega)]
  refine sat_grd rfl ?_
  rw [get_ok, eb]
  refine sat_lt ?_
  rw [marks_f h (by omega)]
  refine sat_grd rfl (sat_lt ?_)
  rw [marks_f hr (by omega)]
  refine sat_grd rfl (sat_lt (sat_lt ?_))
  rw [get_ok, get_ok, List.length_reverse]
  refine sat_bindI (fun f => f = (List.range xs.length).map fun i => wrd xs (b : Int) i) ?_ (fun f hf => sat_rt hf)
  refine sat_for (fun k f => f = (List.range k).map fun i => wrd xs (b : Int) i) rfl ?_ (fun f hf => by rw [enumI_len] at hf; exact hf)
  rintro k ⟨i, x⟩ f hk rfl
  obtain ⟨h1, h2⟩ := enumI_get hk
  dsimp only at h1 h2 ⊢
  subst h1
  have hkl : k < xs.length := by
    rw [List.getElem?_eq_some_iff] at h2
    exact h2.1
  have hxm := h.bd x (List.mem_of_getElem? h2)
  have ea : ix (tab b xs xs.length) (k : Int) = ((mk b (xs.take k) : Nat) : Int) := ix_nat (tab_get (by omega))
  have ebh : ix (tab b xs.reverse xs.length).reverse ((k : Int) + 1) = ((mk b (xs.drop (k + 1)).reverse : Nat) : Int) := by
    have e : ((k : Int) + 1) = ((k + 1 : Nat) : Int) := by omega
    rw [e]
    refine ix_nat ?_
    rw [List.getElem?_reverse (by rw [tab_len]; omega), tab_len, tab_get (by omega), List.take_reverse]
    rw [show xs.length - (xs.length + 1 - 1 - (k + 1)) = k + 1 by omega]
  have oa : okIx (tab b xs xs.length) (k : Int) := okIx_nat (by rw [tab_len]; omega)
  have ob : okIx (tab b xs.reverse xs.length).reverse ((k : Int) + 1) := okIx_int (by omega) (by rw [List.length_reverse, tab_len]; omega)
  have hn := oth_nn h (i := k)
  have hn2 : ∀ y ∈ (xs.drop (k + 1)).reverse, 0 ≤ y := fun y hy => hn.2 y (List.mem_reverse.mp hy)
  obtain ⟨r1, q1, q2⟩ := have_f (w := (b : Int) - x) ea ebh hn.1 hn2 (by omega) (by omega) (by omega)
  obtain ⟨r2, q3, q4⟩ := have_f (w := (b : Int)) ea ebh hn.1 hn2 (by omega) (by omega) (by omega)
  have hrv : ∀ w, Rch (xs.take k ++ (xs.drop (k + 1)).reverse) w ↔ Rch (oth xs k) w := fun w => by
    unfold oth
    rw [rch_app, rch_app]
    exact ⟨fun ⟨a, g1, g2⟩ => ⟨a, g1, rch_rev.mp g2⟩, fun ⟨a, g1, g2⟩ => ⟨a, g1, rch_rev.mpr g2⟩⟩
  rw [hrv] at q2 q4
  rw [q1, q3]
  refine sat_grd ⟨oa, ob, rfl⟩ (sat_lt (sat_grd ⟨oa, ob, rfl⟩ (sat_lt ?_)))
  rw [get_ok, get_ok, List.range_succ, List.map_append]
  have lf : ((List.range k).map fun i => wrd xs (b : Int) i).length < sizeLine := by
    rw [List.length_map, List.length_range]
    exact sz _ (by have := h.len; omega)
  have ew : wrd xs (b : Int) k = bif r1 && r2 then ("free" : Str) else (bif r1 then ("sure" : Str) else ("out" : Str)) := by
    unfold wrd
    rw [h2, Option.getD_some]
    rw [← eq_iff_iff] at q2 q4
    cases r1 <;> cases r2 <;> simp [← q2, ← q4]
  refine sat_if (fun hbb => sat_grd lf (sat_lt (sat_nx ?_))) fun hbb => sat_grd lf (sat_lt (sat_nx ?_))
  · show _ = _ ++ [wrd xs (b : Int) k]
    rw [ew, hbb]
    rfl
  · show _ = _ ++ [wrd xs (b : Int) k]
    rw [ew, hbb]
    rfl
end W02

set_option Elab.async false
set_option linter.all false
set_option maxRecDepth 100000
set_option maxHeartbeats 2000000
/-! dicts of integers -/
namespace Y
open PySem PySem.Spec PyProof.Rows L2 Z
section
variable {κ α : Type} [DecidableEq κ]
theorem hasA_keys {q : κ} {xs : List (κ × α)} : hasA xs q = true ↔ q ∈ xs.map (·.1) := by
  unfold hasA
  rw [List.any_eq_true, List.mem_map]
  constructor
  · rintro ⟨p, h1, h2⟩
    exact ⟨p, h1, of_decide_eq_true h2⟩
  · rintro ⟨p, h1, h2⟩
    exact ⟨p, h1, decide_eq_true h2⟩
theorem getA_none {q : κ} {xs : List (κ × α)} (h : q ∉ xs.map (·.1)) : getA xs q = none := by
  have e := getA_has q xs
  cases e2 : getA xs q with
  | none => rfl
  | some v =>
    rw [e2] at e
    exact absurd (hasA_keys.mp e.symm) h
theorem getA_cons {q k : κ} {v : α} {xs : List (κ × α)} : getA ((k, v) :: xs) q = if k = q then some v else getA xs q := by
  unfold getA
  rw [List.find?_cons]
  by_cases h : k = q
  · simp [h]
  · simp [h]
theorem getA_snoc {q k : κ} {v : α} : ∀ {xs : List (κ × α)}, k ∉ xs.map (·.1) → getA (xs ++ [(k, v)]) q = if k = q then some v else getA xs q
  | [], _ => getA_cons
  | (k1, v1) :: xs, h => by
    rw [List.map_cons, List.mem_cons] at h
    rw [List.cons_append, getA_cons, getA_cons, getA_snoc fun z => h (.inr z)]
    by_cases h1 : k1 = q
    · have : k ≠ q := fun z => h (.inl (z.trans h1.symm))
      simp [h1, this]
    · simp [h1]
theorem getA_put {q k : κ} {v : α} : ∀ {xs : List (κ × α)}, (xs.map (·.1)).Nodup → getA (putA xs k v) q = if k = q then some v else getA xs q := by
  intro xs hn
  unfold putA
  by_cases hh : hasA xs k = true
  · rw [if_pos hh]
    have hk := hasA_keys.mp hh
    clear hh
    induction xs with
    | nil => exact absurd hk (by simp)
    | cons p r ih =>
      obtain ⟨k1, v1⟩ := p
      rw [List.map_cons, List.nodup_cons] at hn
      rw [List.map_cons, List.mem_cons] at hk
      rw [List.map_cons]
      by_cases h1 : k1 = k
      · subst h1
        have e : r.map (fun p => if p.1 = k1 then (p.1, v) else p) = r := by
          refine (List.map_congr_left fun p hp => ?_).trans (List.map_id r)
          have : p.1 ≠ k1 := fun z => by
            have : p.1 ∈ r.map (·.1) := List.mem_map_of_mem hp
            exact hn.1 (z ▸ this)
          rw [if_neg this]
          rfl
        rw [e, if_pos rfl, getA_cons, getA_cons]
        by_cases h2 : k1 = q <;> simp [h2]
      · have hk := hk.resolve_left fun z => h1 z.symm
        rw [if_neg h1, getA_cons, getA_cons, ih hn.2 hk]
        by_cases h2 : k1 = q
        · have : k ≠ q := fun z => h1 (h2.trans z.symm)
          simp [h2, this]
        · simp [h2]
  · rw [if_neg hh]
    exact getA_snoc fun z => hh (hasA_keys.mpr z)
theorem keys_put {k : κ} {v : α} {xs : List (κ × α)} : (putA xs k v).map (·.1) = if hasA xs k = true then xs.map (·.1) else xs.map (·.1) ++ [k] := by
  unfold putA
  by_cases hh : hasA xs k = true
  · rw [if_pos hh, if_pos hh, List.map_map]
    refine List.map_congr_left fun p _ => ?_
    show (if p.1 = k then (p.1, v) else p).1 = p.1
    by_cases h : p.1 = k <;> simp [h]
  · rw [if_neg hh, if_neg hh, List.map_append]
    rfl
theorem nodup_put {k : κ} {v : α} {xs : List (κ × α)} (hn : (xs.map (·.1)).Nodup) : ((putA xs k v).map (·.1)).Nodup := by
  rw [keys_put]
  by_cases hh : hasA xs k = true
  · rw [if_pos hh]
    exact hn
  · rw [if_neg hh, List.nodup_append]
    refine ⟨hn, List.nodup_cons.mpr ⟨by simp, List.nodup_nil⟩, fun a ha b hb => ?_⟩
    rw [List.mem_singleton] at hb
    rw [hb]
    exact fun z => hh (hasA_keys.mpr (z ▸ ha))
theorem mem_put {k q : κ} {v : α} {xs : List (κ × α)} : q ∈ (putA xs k v).map (·.1) ↔ q ∈ xs.map (·.1) ∨ q = k := by
  rw [keys_put]
  by_cases hh : hasA xs k = true
  · rw [if_pos hh]
    exact ⟨.inl, fun h => h.elim id fun z => z ▸ hasA_keys.mp hh⟩
  · rw [if_neg hh, List.mem_append, List.mem_singleton]
end
end Y

set_option Elab.async false
set_option linter.all false
set_option maxRecDepth 100000
set_option maxHeartbeats 2000000
/-! how many choices come to a length -/
namespace W02
open PySem PySem.Spec PyProof.Rows L2 Z Y
theorem sat_noEx {σ l ρ : Type} {P : Po σ l ρ} {o : Ctl σ l ρ} (h : Sat { P with X := fun _ => False } o) : Sat P (noEx o) := by
  cases o with
  | ex c => exact h.elim
  | _ => exact h
def cnt : List Int → Int → Int
  | [], w => if w = 0 then 1 else 0
  | x :: xs, w => cnt xs w + cnt xs (w - x)
theorem cnt_snoc : ∀ {xs : List Int} {x w : Int}, cnt (xs ++ [x]) w = cnt xs w + cnt xs (w - x)
  | [], x, w => rfl
  | y :: xs, x, w => by
    show cnt (xs ++ [x]) w + cnt (xs ++ [x]) (w - y) = cnt xs w + cnt xs (w - y) + (cnt xs (w - x) + cnt xs (w - x - y))
    rw [cnt_snoc, cnt_snoc, show w - y - x = w - x - y by omega]
    omega
theorem cnt_none : ∀ {xs : List Int} {w : Int}, ¬ Rch xs w → cnt xs w = 0
  | [], w, h => if_neg h
  | x :: xs, w, h => by
    show cnt xs w + cnt xs (w - x) = 0
    rw [cnt_none fun z => h (.inl z), cnt_none fun z => h (.inr z)]
    rfl
/-- the dict tells the counts up to s -/
structure Tells (s : Nat) (xs : List Int) (d : List (Int × Int)) : Prop where
  nd : (d.map (·.1)).Nodup
  ks : ∀ w : Int, w ∈ d.map (·.1) ↔ Rch xs w ∧ w ≤ s
  vs : ∀ w : Int, w ≤ s → (getA d w).getD 0 = cnt xs w
theorem tells_len {s : Nat} {ks : List Int} (hn : ks.Nodup) (h : ∀ w ∈ ks, 0 ≤ w ∧ w ≤ (s : Int)) : ks.length ≤ s + 1 := by
  have := List.Nodup.length_le_of_subset (l₂ := rngI 0 ((s : Int) + 1)) hn fun w hw => rngI_mem.mpr (by have := h w hw; omega)
  rw [rngI_len] at this
  omega
theorem take_keys {d : List (Int × Int)} {k : Nat} {p : Int × Int} (hn : (d.map (·.1)).Nodup) (h : d[k]? = some p) : p.1 ∉ (d.take k).map (·.1) := by
  rw [List.getElem?_eq_some_iff] at h
  obtain ⟨h1, h2⟩ := h
  have e : d = d.take k ++ (p :: d.drop (k + 1)) := by
    rw [← h2, ← List.drop_eq_getElem_cons h1, List.take_append_drop]
  rw [e, List.map_append, List.nodup_append] at hn
  intro hm
  exact hn.2.2 _ hm p.1 (by simp) rfl
theorem counts_f {xs : List Int} {s : Nat} (h : Fine xs) (hs : s ≤ 20000) : ∃ d, m_counts_by xs (s : Int) = .ok d ∧ Tells s xs d := by
  unfold m_counts_by
  refine run_satE (R := fun d => Tells s xs d) ?_
  refine sat_lt ?_
  have e0 : ([((0 : Int), (1 : Int))].foldl (fun a (p : Int × Int) => putA a p.1 p.2) ([] : (List (Int × Int)))) = [(0, 1)] := by decide
  rw [e0]
  refine sat_bindI (fun d => Tells s xs d) ?_ fun d hd => sat_rt hd
  refine sat_for (fun k d => Tells s (xs.take k) d) ?_ ?_ (fun d hd => by rw [List.take_length] at hd; exact hd)
  · refine ⟨by simp, fun w => ?_, fun w _ => ?_⟩
    · show w ∈ [0] ↔ (w = 0) ∧ _
      rw [List.mem_singleton]
      omega
    · show (getA [((0 : Int), (1 : Int))] w).getD 0 = if w = 0 then 1 else 0
      rw [getA_cons]
      by_cases hw : w = 0
      · subst hw; rfl
      · rw [if_neg fun z => hw z.symm, if_neg hw]; rfl
  · rintro i x d hx ⟨nd, ks, vs⟩
    have hxm := h.bd x (List.mem_of_getElem? hx)
    have hnn : ∀ y ∈ xs.take i, 0 ≤ y := fun y hy => h.nn y (List.mem_of_mem_take hy)
    have et : xs.take (i + 1) = xs.take i ++ [x] := by rw [List.take_add_one, hx]; rfl
    rw [et]
    dsimp only
    refine sat_lt ?_
    refine sat_bindI (fun m => Tells s (xs.take i ++ [x]) m) (sat_noEx ?_) fun m hm => sat_lt (sat_nx hm)
    refine sat_for (fun k m => (m.map (·.1)).Nodup ∧ (∀ w : Int, w ∈ m.map (·.1) ↔ w ∈ d.map (·.1) ∨ w ≤ s ∧ w - x ∈ (d.take k).map (·.1)) ∧ ∀ w : Int, w ≤ s → (getA m w).getD 0 = (getA d w).getD 0 + (getA (d.take k) (w - x)).getD 0) ?_ ?_ ?_
    · refine ⟨nd, fun w => by simp, fun w _ => ?_⟩
      show _ = _ + (0 : Int)
      omega
    · rintro k ⟨q, v⟩ m hk ⟨g1, g2, g3⟩
      have hnk := take_keys nd hk
      dsimp only at hnk ⊢
      have ek : d.take (k + 1) = d.take k ++ [(q, v)] := by rw [List.take_add_one, hk]; rfl
      have hqd : q ∈ d.map (·.1) := List.mem_map_of_mem (f := (·.1)) (List.mem_of_getElem? hk)
      have hq0 := rch_nn hnn ((ks q).mp hqd).1
      have hrange : ∀ w ∈ m.map (·.1), 0 ≤ w ∧ w ≤ (s : Int) := fun w hw => by
        rcases (g2 w).mp hw with z | ⟨z1, z2⟩
        · exact ⟨rch_nn hnn ((ks w).mp z).1, ((ks w).mp z).2⟩
        · obtain ⟨p, z3, z4⟩ := List.mem_map.mp z2
          have : w - x ∈ d.map (·.1) := List.mem_map.mpr ⟨p, List.mem_of_mem_take z3, z4⟩
          have := rch_nn hnn ((ks _).mp this).1
          exact ⟨by omega, z1⟩
      refine sat_if (fun hb => ?_) fun hb => ?_
      · have hb := of_decide_eq_true hb
        refine sat_grd (sz _ (by have := tells_len g1 hrange; rw [List.length_map] at this; omega)) (sat_lt (sat_nx ⟨nodup_put g1, fun w => ?_, fun w hw => ?_⟩))
        · rw [mem_put, g2, ek, List.map_append, List.mem_append]
          show _ ↔ _ ∨ _ ∧ (_ ∨ w - x ∈ [q])
          rw [List.mem_singleton]
          constructor
          · rintro ((z | ⟨z1, z2⟩) | z)
            · exact .inl z
            · exact .inr ⟨z1, .inl z2⟩
            · exact .inr ⟨by omega, .inr (by omega)⟩
          · rintro (z | ⟨z1, z2 | z2⟩)
            · exact .inl (.inl z)
            · exact .inl (.inr ⟨z1, z2⟩)
            · exact .inr (by omega)
        · rw [getA_put g1, ek, getA_snoc hnk]
          by_cases hw2 : q + x = w
          · have e2 : q = w - x := by omega
            rw [if_pos hw2, if_pos e2]
            show (getA m (q + x)).getD 0 + v = _
            rw [g3 _ hb, hw2, ← e2, getA_none hnk]
            show _ + (0 : Int) + v = _ + v
            omega
          · rw [if_neg hw2, if_neg (by omega), g3 w hw]
      · have hb := of_decide_eq_false hb
        refine sat_nx ⟨g1, fun w => ?_, fun w hw => ?_⟩
        · rw [g2, ek, List.map_append, List.mem_append]
          show _ ↔ _ ∨ _ ∧ (_ ∨ w - x ∈ [q])
          rw [List.mem_singleton]
          constructor
          · rintro (z | ⟨z1, z2⟩)
            · exact .inl z
            · exact .inr ⟨z1, .inl z2⟩
          · rintro (z | ⟨z1, z2 | z2⟩)
            · exact .inl z
            · exact .inr ⟨z1, z2⟩
            · omega
        · rw [g3 w hw, ek, getA_snoc hnk, if_neg (by omega)]
    · rintro m ⟨g1, g2, g3⟩
      rw [List.take_length] at g2 g3
      refine ⟨g1, fun w => ?_, fun w hw => ?_⟩
      · rw [g2, ks, ks, rch_snoc]
        constructor
        · rintro (⟨z1, z2⟩ | ⟨z1, z2, z3⟩)
          · exact ⟨.inl z1, z2⟩
          · exact ⟨.inr z2, z1⟩
        · rintro ⟨z1 | z1, z2⟩
          · exact .inl ⟨z1, z2⟩
          · exact .inr ⟨z2, z1, by omega⟩
      · rw [g3 w hw, vs w hw, vs _ (by omega), cnt_snoc]
end W02

set_option Elab.async false
set_option linter.all false
set_option maxRecDepth 100000
set_option maxHeartbeats 2000000
/-! the count of the fullest -/
namespace W02
open PySem PySem.Spec PyProof.Rows L2 Z Y
theorem maxI_uniq : ∀ {l : List Int} {b : Int}, b ∈ l → (∀ x ∈ l, x ≤ b) → maxI l = b := fun hb h => Int.le_antisymm (h _ (maxI_mem (List.length_pos_of_mem hb))) (maxI_le hb)
theorem count_f {xs : List Int} {s : Nat} (h : Fine xs) (hs : s ≤ 20000) : m_count_fullest (eT eI xs) (s : Int) = .ok (cnt xs (bst s xs)) := by
  obtain ⟨d, e, nd, ks, vs⟩ := counts_f h hs
  have hb := bst_rch (s := s) h.nn
  have hm : bst s xs ∈ d.map (·.1) := (ks _).mpr ⟨hb.1, hb.2.1⟩
  have em : maxI (keysA d) = bst s xs := maxI_uniq hm fun x hx => bst_le h.nn ((ks x).mp hx).1 ((ks x).mp hx).2
  unfold m_count_fullest
  rw [check_f h hs]
  refine run_sat ?_
  show Sat _ (grd ((tyT tyI).p (eT eI xs) = true) (lt ((tyT tyI).f (eT eI xs)) _))
  refine sat_grd (tyTI_p xs) ?_
  rw [tyTI_f]
  refine sat_lt ?_
  rw [e]
  refine sat_grd rfl (sat_lt ?_)
  rw [get_ok, em]
  refine sat_grd ⟨?_, hasA_keys.mpr hm⟩ (sat_rt ?_)
  · cases d with
    | nil => exact absurd hm (by simp)
    | cons p r => simp
  · show atA d (bst s xs) = _
    rw [← vs _ hb.2.1]
    rfl
/-- what the law is told -/
def toldF (q : Int) (xs : List Int) (s : Nat) (d : PyData) : Prop := m__law_told q (eT eI xs) (s : Int) = .ok d
def refV : PyData := eL eB (flV 0)
theorem told_x {v : PyData} {S : Int} (h : bothB v S = false) {q : Int} (hq : 0 ≤ q ∧ q < 5) : m__law_told q v S = .ok refV := by
  obtain ⟨h0, h1, h2, h3, h4, _⟩ := refused h
  have : q = 0 ∨ q = 1 ∨ q = 2 ∨ q = 3 ∨ q = 4 := by omega
  unfold m__law_told
  rcases this with rfl | rfl | rfl | rfl | rfl
  · rw [h0]; rfl
  · rw [h1]; rfl
  · rw [h2]; rfl
  · rw [h3]; rfl
  · rw [h4]; rfl
theorem is_x {v : PyData} {S : Int} (h : bothB v S = false) (c : List Int) : m__law_is v S c = .ok refV := by
  obtain ⟨_, _, _, _, _, h5⟩ := refused h
  unfold m__law_is
  rw [h5]
  rfl
theorem told0 {xs : List Int} {s : Nat} (h : Fine xs) (hs : s ≤ 20000) : m__law_told 0 (eT eI xs) (s : Int) = .ok (eL eI (acc s xs)) := by
  unfold m__law_told
  rw [up_f h hs]
  rfl
theorem told1 {xs : List Int} {s : Nat} (h : Fine xs) (hs : s ≤ 20000) : ∃ c, m__law_told 1 (eT eI xs) (s : Int) = .ok (eT eI c) ∧ Cho xs.length c ∧ sel xs c = bst s xs := by
  obtain ⟨c, e, h1, h2⟩ := full_f h hs
  refine ⟨c, ?_, h1, h2⟩
  unfold m__law_told
  rw [e]
  rfl
theorem told2 {xs : List Int} {s : Nat} (h : Fine xs) (hs : s ≤ 20000) : m__law_told 2 (eT eI xs) (s : Int) = .ok (eI (bst s xs)) := by
  unfold m__law_told
  rw [len_f h hs]
  rfl
theorem told3 {xs : List Int} {s : Nat} (h : Fine xs) (hs : s ≤ 20000) : m__law_told 3 (eT eI xs) (s : Int) = .ok (eI (cnt xs (bst s xs))) := by
  unfold m__law_told
  rw [count_f h hs]
  rfl
theorem told4 {xs : List Int} {s : Nat} (h : Fine xs) (hs : s ≤ 20000) : m__law_told 4 (eT eI xs) (s : Int) = .ok (eL eS ((List.range xs.length).map fun i => wrd xs (bst s xs) i)) := by
  unfold m__law_told
  rw [words_f h hs]
  rfl
theorem is_f {xs : List Int} {s : Nat} (h : Fine xs) (hs : s ≤ 20000) {c : List Int} (hc : c.length < 10000000) : m__law_is (eT eI xs) (s : Int) c = .ok (eB (choB xs.length c && (sel xs c == bst s xs))) := by
  unfold m__law_is
  rw [isf_f h hs hc]
  rfl
end W02

set_option Elab.async false
set_option linter.all false
set_option maxRecDepth 100000
set_option maxHeartbeats 2000000
/-! the law's own choices -/
namespace W02
open PySem PySem.Spec PyProof.Rows L2 Z Y
def chs : Nat → List (List Int)
  | 0 => [[]]
  | k + 1 => chs k ++ (chs k).map (· ++ [(k : Int)])
theorem chs_len : ∀ k, (chs k).length = 2 ^ k
  | 0 => rfl
  | k + 1 => by
    show (chs k ++ _).length = _
    rw [List.length_append, List.length_map, chs_len, Nat.pow_succ]
    omega
theorem cho_snoc {k : Nat} {c : List Int} (h : Cho k c) : Cho (k + 1) (c ++ [(k : Int)]) := by
  refine ⟨?_, fun i hi => ?_⟩
  · rw [List.pairwise_append]
    refine ⟨h.1, List.pairwise_singleton _ _, fun a ha b hb => ?_⟩
    rw [List.mem_singleton] at hb
    have := h.2 a ha
    omega
  · rw [List.mem_append, List.mem_singleton] at hi
    rcases hi with hi | hi
    · have := h.2 i hi
      omega
    · omega
theorem chs_mem : ∀ {k : Nat} {c : List Int}, c ∈ chs k ↔ Cho k c
  | 0, c => by
    show c ∈ [[]] ↔ _
    rw [List.mem_singleton]
    constructor
    · rintro rfl
      exact ⟨List.Pairwise.nil, fun i hi => absurd hi (by simp)⟩
    · rintro ⟨_, h⟩
      cases c with
      | nil => rfl
      | cons a r =>
        have := h a (.head _)
        omega
  | k + 1, c => by
    show c ∈ chs k ++ (chs k).map (· ++ [(k : Int)]) ↔ _
    rw [List.mem_append, List.mem_map]
    constructor
    · rintro (h | ⟨d, h, rfl⟩)
      · have h := chs_mem.mp h
        exact ⟨h.1, fun i hi => by have := h.2 i hi; omega⟩
      · exact cho_snoc (chs_mem.mp h)
    · intro h
      by_cases hk : (k : Int) ∈ c
      · refine .inr ?_
        have hn : c ≠ [] := fun z => by rw [z] at hk; cases hk
        have e := List.dropLast_concat_getLast hn
        have hl := asc_last h.1 hn _ hk
        have hm := h.2 _ (List.getLast_mem hn)
        have el : c.getLast hn = (k : Int) := by omega
        refine ⟨c.dropLast, chs_mem.mpr ⟨h.1.sublist (List.dropLast_sublist c), fun i hi => ?_⟩, ?_⟩
        · have h1 := h.1
          rw [← e, List.pairwise_append] at h1
          have := h1.2.2 i hi _ (List.mem_singleton.mpr rfl)
          have := h.2 i (List.dropLast_subset c hi)
          omega
        · rw [← el]
          exact e
      · refine .inl (chs_mem.mpr ⟨h.1, fun i hi => ?_⟩)
        have := h.2 i hi
        have : i ≠ k := fun z => hk (z ▸ hi)
        omega
theorem cho_len {k : Nat} {c : List Int} (h : c ∈ chs k) : c.length ≤ k := by
  induction k generalizing c with
  | zero =>
    have h : c ∈ [[]] := h
    rw [List.mem_singleton] at h
    subst h
    exact Nat.le_refl 0
  | succ k ih =>
    have h : c ∈ chs k ++ (chs k).map (· ++ [(k : Int)]) := h
    rw [List.mem_append, List.mem_map] at h
    rcases h with h | ⟨d, h2, rfl⟩
    · have := ih h
      omega
    · have := ih h2
      rw [List.length_append]
      show _ + 1 ≤ _
      omega
theorem choices_eq {n : Nat} (hn : n ≤ 12) : m__law_choices (n : Int) = .ok (chs n) := by
  unfold m__law_choices
  refine run_sat ?_
  refine sat_lt (sat_grd (bnd_of (by omega)) ?_)
  refine sat_bindI (fun f => f = chs n) ?_ fun f hf => sat_rt hf
  refine sat_for (fun k f => f = chs k) rfl ?_ (fun f hf => by rw [rngI_len] at hf; rw [hf] <;> congr 1 <;> omega)
  rintro k x f hk rfl
  obtain ⟨h1, h2⟩ := rngI_get hk
  have hx : x = (k : Int) := by omega
  subst hx
  have hp : 2 ^ k ≤ 2 ^ 12 := Nat.pow_le_pow_right (by omega) (by omega)
  have hs := sz_big
  refine sat_grd ⟨fun c hc => ?_, ?_, ?_⟩ (sat_lt (sat_nx rfl))
  · have := cho_len hc
    show _ + 1 ≤ _
    omega
  · rw [chs_len]
    omega
  · rw [List.length_map, chs_len]
    omega
theorem sel_snoc {xs : List Int} {c : List Int} {k : Nat} {x : Int} (h : xs[k]? = some x) : sel xs (c ++ [(k : Int)]) = sel xs c + x := by
  unfold sel
  rw [List.map_append, List.sum_append]
  simp only [List.map_cons, List.map_nil, List.sum_cons, List.sum_nil]
  rw [ix_nat h]
  omega
/-- how many choices come to w -/
theorem chs_cnt {xs : List Int} : ∀ {k : Nat} {w : Int}, k ≤ xs.length → ((((chs k).filter fun c => sel xs c == w).length : Nat) : Int) = cnt (xs.take k) w
  | 0, w, _ => by
    show ((([[]].filter fun c : List Int => sel xs c == w).length : Nat) : Int) = if w = 0 then 1 else 0
    rw [List.filter_cons]
    show ((if ((0 : Int) == w) = true then _ else _ : List (List Int)).length : Int) = _
    by_cases h : w = 0
    · subst h; rfl
    · have : ((0 : Int) == w) = false := by rw [beq_eq_false_iff_ne]; exact fun z => h z.symm
      rw [this, if_neg h]; rfl
  | k + 1, w, hk => by
    have hx : xs[k]? = some xs[k] := List.getElem?_eq_getElem (by omega)
    have e : xs.take (k + 1) = xs.take k ++ [xs[k]] := by rw [List.take_add_one, hx]; rfl
    rw [e, cnt_snoc, ← chs_cnt (by omega), ← chs_cnt (by omega)]
    show (((chs k ++ (chs k).map (· ++ [(k : Int)])).filter fun c => sel xs c == w).length : Int) = _
    rw [List.filter_append, List.length_append, List.filter_map, List.length_map]
    have e2 : ((fun c => sel xs c == w) ∘ fun x => x ++ [(k : Int)]) = fun c => sel xs c == w - xs[k] := by
      funext c
      show (sel xs (c ++ [(k : Int)]) == w) = _
      rw [sel_snoc hx, Bool.eq_iff_iff, beq_iff_eq, beq_iff_eq]
      omega
    rw [e2]
    omega
/-- what choices come to -/
theorem chs_rch {xs : List Int} : ∀ {k : Nat} {w : Int}, k ≤ xs.length → (Rch (xs.take k) w ↔ ∃ c ∈ chs k, sel xs c = w)
  | 0, w, _ => by
    show w = 0 ↔ ∃ c ∈ [[]], sel xs c = w
    constructor
    · rintro rfl
      exact ⟨[], .head _, rfl⟩
    · rintro ⟨c, h, e⟩
      rw [List.mem_singleton] at h
      subst h
      exact e.symm
  | k + 1, w, hk => by
    have hx : xs[k]? = some xs[k] := List.getElem?_eq_getElem (by omega)
    have e : xs.take (k + 1) = xs.take k ++ [xs[k]] := by rw [List.take_add_one, hx]; rfl
    rw [e, rch_snoc, chs_rch (w := w) (by omega), chs_rch (w := w - xs[k]) (by omega)]
    show _ ↔ ∃ c ∈ chs k ++ (chs k).map (· ++ [(k : Int)]), sel xs c = w
    constructor
    · rintro (⟨c, h1, h2⟩ | ⟨c, h1, h2⟩)
      · exact ⟨c, List.mem_append_left _ h1, h2⟩
      · exact ⟨c ++ [(k : Int)], List.mem_append_right _ (List.mem_map_of_mem h1), by rw [sel_snoc hx]; omega⟩
    · rintro ⟨c, h1, h2⟩
      rw [List.mem_append, List.mem_map] at h1
      rcases h1 with h1 | ⟨d, h1, rfl⟩
      · exact .inl ⟨c, h1, h2⟩
      · rw [sel_snoc hx] at h2
        exact .inr ⟨d, h1, by omega⟩
end W02

set_option Elab.async false
set_option linter.all false
set_option maxRecDepth 100000
set_option maxHeartbeats 2000000
/-! one siding of the law -/
namespace W02
open PySem PySem.Spec PyProof.Rows L2 Z Y
theorem oth_take {xs : List Int} {i k : Nat} (h : i < k) (hk : k < xs.length) : oth (xs.take (k + 1)) i = oth (xs.take k) i ++ [xs[k]] := by
  have e : xs.take (k + 1) = xs.take k ++ [xs[k]] := by rw [List.take_add_one, List.getElem?_eq_getElem hk]; rfl
  unfold oth
  have hl : (xs.take k).length = k := by rw [List.length_take]; omega
  rw [e, List.take_append_of_le_length (by omega), List.drop_append_of_le_length (by omega), List.append_assoc]
theorem oth_base {xs : List Int} {i : Nat} (h : i < xs.length) : oth (xs.take (i + 1)) i = xs.take i := by
  unfold oth
  rw [List.drop_of_length_le (by rw [List.length_take]; omega), List.append_nil, List.take_take]
  congr 1
  omega
/-- choices with and without one wagon -/
theorem chs_with {xs : List Int} {i : Nat} {x : Int} (hx : xs[i]? = some x) (b : Bool) : ∀ {k : Nat} {w : Int}, i < k → k ≤ xs.length → ((∃ c ∈ chs k, decide ((i : Int) ∈ c) = b ∧ sel xs c = w) ↔ Rch (oth (xs.take k) i) (if b = true then w - x else w))
  | 0, _, h, _ => by omega
  | k + 1, w, h, hk => by
    by_cases hi : i = k
    · subst hi
      rw [oth_base (by omega), chs_rch (w := if b = true then w - x else w) (by omega)]
      have hno : ∀ c ∈ chs i, (i : Int) ∉ c := fun c hc hm => by
        have := (chs_mem.mp hc).2 _ hm
        omega
      show (∃ c ∈ chs i ++ (chs i).map (· ++ [(i : Int)]), _) ↔ _
      constructor
      · rintro ⟨c, h1, h2, h3⟩
        rw [List.mem_append, List.mem_map] at h1
        rcases h1 with h1 | ⟨d, h1, rfl⟩
        · rw [decide_eq_false (hno c h1)] at h2
          subst h2
          exact ⟨c, h1, h3⟩
        · rw [decide_eq_true (by simp)] at h2
          subst h2
          rw [sel_snoc hx] at h3
          exact ⟨d, h1, by rw [if_pos rfl]; omega⟩
      · rintro ⟨c, h1, h2⟩
        cases b with
        | false => exact ⟨c, List.mem_append_left _ h1, decide_eq_false (hno c h1), h2⟩
        | true =>
          rw [if_pos rfl] at h2
          exact ⟨c ++ [(i : Int)], List.mem_append_right _ (List.mem_map_of_mem h1), decide_eq_true (by simp), by rw [sel_snoc hx]; omega⟩
    · have hk2 : xs[k]? = some xs[k] := List.getElem?_eq_getElem (by omega)
      have e0 : (if b = true then w - x else w) - xs[k] = if b = true then (w - xs[k]) - x else w - xs[k] := by
        cases b
        · rfl
        · rw [if_pos rfl, if_pos rfl]; omega
      rw [oth_take (by omega) (by omega), rch_snoc, e0, ← chs_with hx b (w := w) (by omega) (by omega), ← chs_with hx b (w := w - xs[k]) (by omega) (by omega)]
      show (∃ c ∈ chs k ++ (chs k).map (· ++ [(k : Int)]), _) ↔ _
      have ed : ∀ d : List Int, decide ((i : Int) ∈ d ++ [(k : Int)]) = decide ((i : Int) ∈ d) := fun d => by
        rw [Bool.eq_iff_iff, decide_eq_true_eq, decide_eq_true_eq, List.mem_append, List.mem_singleton]
        exact ⟨fun z => z.resolve_right (by omega), .inl⟩
      constructor
      · rintro ⟨c, h1, h2, h3⟩
        rw [List.mem_append, List.mem_map] at h1
        rcases h1 with h1 | ⟨d, h1, rfl⟩
        · exact .inl ⟨c, h1, h2, h3⟩
        · rw [ed] at h2
          rw [sel_snoc hk2] at h3
          exact .inr ⟨d, h1, h2, by omega⟩
      · rintro (⟨c, h1, h2, h3⟩ | ⟨c, h1, h2, h3⟩)
        · exact ⟨c, List.mem_append_left _ h1, h2, h3⟩
        · exact ⟨c ++ [(k : Int)], List.mem_append_right _ (List.mem_map_of_mem h1), by rw [ed]; exact h2, by rw [sel_snoc hk2]; omega⟩
/-- the law's best choices -/
def bests (xs : List Int) (b : Int) : List (List Int) := (chs xs.length).filter fun c => sel xs c == b
theorem bests_cnt {xs : List Int} {b : Int} : ((bests xs b).length : Int) = cnt xs b := by
  have := chs_cnt (xs := xs) (k := xs.length) (w := b) (Nat.le_refl _)
  rw [List.take_length] at this
  exact this
theorem bests_mem {xs : List Int} {b : Int} {c : List Int} : c ∈ bests xs b ↔ Cho xs.length c ∧ sel xs c = b := by
  unfold bests
  rw [List.mem_filter, chs_mem, beq_iff_eq]
theorem filter_all {α : Type} {p : α → Bool} {l : List α} : (l.filter p).length = l.length ↔ ∀ x ∈ l, p x = true := List.length_filter_eq_length_iff
theorem word_eq {xs : List Int} {b : Int} {i : Nat} (hi : i < xs.length) (hb : Rch xs b) :
    let n : Int := (((bests xs b).filter fun c => decide ((i : Int) ∈ c)).length : Int)
    ix ([(ix ([("free" : Str), ("out" : Str)] : List Str) (if ((n == (0 : Int))) = true then 1 else 0)), ("sure" : Str)] : List Str) (if ((n == ((bests xs b).length : Int))) = true then 1 else 0) = wrd xs b i := by
  intro n
  have hx : xs[i]? = some xs[i] := List.getElem?_eq_getElem hi
  have h1 := chs_with hx true (k := xs.length) (w := b) hi (Nat.le_refl _)
  have h2 := chs_with hx false (k := xs.length) (w := b) hi (Nat.le_refl _)
  rw [List.take_length, if_pos rfl] at h1
  rw [List.take_length, if_neg (by simp)] at h2
  have hor := (rch_one hx).mp hb
  have n0 : n = 0 ↔ ¬ Rch (oth xs i) (b - xs[i]) := by
    rw [← h1]
    show (((bests xs b).filter fun c => decide ((i : Int) ∈ c)).length : Int) = 0 ↔ _
    rw [Int.natCast_eq_zero, List.length_eq_zero_iff, List.filter_eq_nil_iff]
    constructor
    · rintro z ⟨c, z1, z2, z3⟩
      exact z c (bests_mem.mpr ⟨chs_mem.mp z1, z3⟩) z2
    · intro z c hc hd
      exact z ⟨c, chs_mem.mpr (bests_mem.mp hc).1, hd, (bests_mem.mp hc).2⟩
  have n1 : n = ((bests xs b).length : Int) ↔ ¬ Rch (oth xs i) b := by
    rw [← h2]
    show (((bests xs b).filter fun c => decide ((i : Int) ∈ c)).length : Int) = _ ↔ _
    rw [Int.natCast_inj, filter_all]
    constructor
    · rintro z ⟨c, z1, z2, z3⟩
      have := z c (bests_mem.mpr ⟨chs_mem.mp z1, z3⟩)
      rw [z2] at this
      cases this
    · intro z c hc
      cases e : decide ((i : Int) ∈ c)
      · exact absurd ⟨c, chs_mem.mpr (bests_mem.mp hc).1, e, (bests_mem.mp hc).2⟩ z
      · rfl
  unfold wrd
  rw [hx, Option.getD_some]
  by_cases a1 : Rch (oth xs i) (b - xs[i])
  · have c0 : (n == (0 : Int)) = false := by rw [beq_eq_false_iff_ne]; exact fun z => n0.mp z a1
    by_cases a2 : Rch (oth xs i) b
    · have c1 : (n == ((bests xs b).length : Int)) = false := by rw [beq_eq_false_iff_ne]; exact fun z => n1.mp z a2
      rw [c0, c1, if_pos a1, if_pos a2]
      rfl
    · have c1 : (n == ((bests xs b).length : Int)) = true := beq_iff_eq.mpr (n1.mpr a2)
      rw [c0, c1, if_pos a1, if_neg a2]
      rfl
  · have a2 := hor.resolve_right a1
    have c0 : (n == (0 : Int)) = true := beq_iff_eq.mpr (n0.mpr a1)
    have c1 : (n == ((bests xs b).length : Int)) = false := by rw [beq_eq_false_iff_ne]; exact fun z => n1.mp z a2
    rw [c0, c1, if_neg a1]
    rfl
end W02

set_option Elab.async false
set_option linter.all false
set_option maxRecDepth 100000
set_option maxHeartbeats 2000000
/-! the law's fits -/
namespace W02
open PySem PySem.Spec PyProof.Rows L2 Z Y
theorem rng_map {α : Type} [Inhabited α] (E : List α) : (rngI 0 (E.length : Int)).map (fun i => ix E i) = E := by
  refine List.ext_getElem? fun i => ?_
  rw [List.getElem?_map]
  by_cases h : i < E.length
  · have e : (rngI 0 (E.length : Int))[i]? = some (i : Int) := by
      rw [List.getElem?_eq_getElem (by rw [rngI_len]; omega)]
      have := (rngI_get (List.getElem?_eq_getElem (l := rngI 0 (E.length : Int)) (i := i) (by rw [rngI_len]; omega))).1
      rw [this]
      congr 1
      omega
    rw [e, List.getElem?_eq_getElem h]
    show some (ix E (i : Int)) = _
    rw [ix_nat (List.getElem?_eq_getElem h)]
  · rw [List.getElem?_eq_none (by rw [rngI_len]; omega), List.getElem?_eq_none (by omega)]
    rfl
def sizes (xs : List Int) : List Int := (chs xs.length).map fun c => sel xs c
theorem sizes_at {xs : List Int} {i : Int} (h : i ∈ rngI 0 ((chs xs.length).length : Int)) : ix (sizes xs) i = sel xs (ix (chs xs.length) i) := by
  rw [rngI_mem] at h
  unfold sizes
  exact ix_map (okIx_int h.1 h.2)
def fits (xs : List Int) (s : Int) : List Int := ((rngI 0 ((chs xs.length).length : Int)).filter fun i => decide (ix (sizes xs) i ≤ s)).map fun i => i
theorem fits_sub {xs : List Int} {s i : Int} (h : i ∈ fits xs s) : i ∈ rngI 0 ((chs xs.length).length : Int) ∧ ix (sizes xs) i ≤ s := by
  unfold fits at h
  rw [map_same, List.mem_filter] at h
  exact ⟨h.1, of_decide_eq_true h.2⟩
theorem fits_by {xs : List Int} {s : Int} : (fits xs s).map (fun i => ix (chs xs.length) i) = (chs xs.length).filter fun c => decide (sel xs c ≤ s) := by
  unfold fits
  rw [map_same]
  have e : ((rngI 0 ((chs xs.length).length : Int)).filter fun i => decide (ix (sizes xs) i ≤ s)) = (rngI 0 ((chs xs.length).length : Int)).filter ((fun c => decide (sel xs c ≤ s)) ∘ fun i => ix (chs xs.length) i) := List.filter_congr fun i hi => by
    rw [sizes_at hi]
    rfl
  rw [e, ← List.filter_map, rng_map]
theorem fits_sizes {xs : List Int} {s : Int} : (fits xs s).map (fun i => ix (sizes xs) i) = ((chs xs.length).filter fun c => decide (sel xs c ≤ s)).map fun c => sel xs c := by
  rw [← fits_by, List.map_map]
  exact List.map_congr_left fun i hi => sizes_at (fits_sub hi).1
theorem fs_mem {xs : List Int} {s w : Int} : w ∈ (fits xs s).map (fun i => ix (sizes xs) i) ↔ Rch xs w ∧ w ≤ s := by
  rw [fits_sizes, List.mem_map]
  have h := chs_rch (xs := xs) (k := xs.length) (w := w) (Nat.le_refl _)
  rw [List.take_length] at h
  rw [h]
  constructor
  · rintro ⟨c, h1, rfl⟩
    rw [List.mem_filter] at h1
    exact ⟨⟨c, h1.1, rfl⟩, of_decide_eq_true h1.2⟩
  · rintro ⟨⟨c, h1, rfl⟩, h2⟩
    exact ⟨c, List.mem_filter.mpr ⟨h1, decide_eq_true h2⟩, rfl⟩
theorem most_eq {xs : List Int} {s : Nat} (h : Fine xs) : maxI ((fits xs (s : Int)).map fun i => ix (sizes xs) i) = bst s xs := by
  have hb := bst_rch (s := s) h.nn
  exact maxI_uniq (fs_mem.mpr ⟨hb.1, hb.2.1⟩) fun x hx => bst_le h.nn (fs_mem.mp hx).1 (fs_mem.mp hx).2
theorem due_eq {xs : List Int} {s : Nat} (h : Fine xs) : usort ((fits xs (s : Int)).map fun i => ix (sizes xs) i) = acc s xs := asc_uniq (usort_asc _) acc_asc fun w => by rw [usort_mem, fs_mem, acc_mem h.nn]
theorem best_eq {xs : List Int} {s : Nat} (h : Fine xs) : (((fits xs (s : Int)).filter fun i => (ix (sizes xs) i == bst s xs)).map fun i => ix (chs xs.length) i) = bests xs (bst s xs) := by
  have hb := bst_rch (s := s) h.nn
  have e : ((fits xs (s : Int)).filter fun i => (ix (sizes xs) i == bst s xs)) = (fits xs (s : Int)).filter ((fun c => sel xs c == bst s xs) ∘ fun i => ix (chs xs.length) i) := List.filter_congr fun i hi => by
    rw [sizes_at (fits_sub hi).1]
    rfl
  rw [e, ← List.filter_map, fits_by, List.filter_filter]
  unfold bests
  refine List.filter_congr fun c _ => ?_
  rw [Bool.eq_iff_iff, Bool.and_eq_true, beq_iff_eq, decide_eq_true_eq]
  exact ⟨fun z => z.1, fun z => ⟨z, by rw [z]; exact hb.2.1⟩⟩
end W02

set_option Elab.async false
set_option linter.all false
set_option maxRecDepth 100000
set_option maxHeartbeats 2000000
/-! the law -/
namespace W02
open PySem PySem.Spec PyProof.Rows L2 Z Y
theorem ok2 {α : Type} {a b : α} {p : Prop} [Decidable p] : okIx [a, b] (if p then 1 else 0) := by
  split
  · exact okIx_int (by decide) (by simp)
  · exact okIx_int (by decide) (by simp)
theorem mapS_const {α β δ : Type} {f : α → δ → β × δ} {b : β} : ∀ {xs : List α} {s : δ}, (∀ x ∈ xs, ∀ s, (f x s).1 = b) → (mapS f xs s).1 = List.replicate xs.length b
  | [], _, _ => rfl
  | x :: r, s, h => by
    unfold mapS
    rw [h x List.mem_cons_self, mapS_const fun x hx => h x (List.mem_cons_of_mem _ hx)]
    rfl
/-- what is none -/
def bads : List PyData := [(eN ()), ((eL eI) ([(5 : Int)] : List Int)), ((eT eI) ([(0 : Int)] : List Int)), ((eT eI) ([(1001 : Int)] : List Int)), ((eT eB) ([true] : List Bool)), ((eT eS) ([("5" : Str)] : List Str)), ((eT eI) (List.replicate ((61 : Int)).toNat ([(5 : Int)] : List Int)).flatten), (eI (5 : Int))]
theorem bads_no : ∀ b ∈ bads, bothB b 5 = false := by
  have h : bads.all (fun b => !bothB b 5) = true := by decide +kernel
  intro b hb
  have := List.all_eq_true.mp h b hb
  rwa [Bool.not_eq_true'] at this
theorem both_out {v : PyData} {S : Int} (h : wi (.int S) 0 20000 = false) : bothB v S = false := by
  unfold bothB
  rw [h, Bool.and_false]
theorem law_ok (ds : List Nat) : m_law ds = .ok true := by
  unfold m_law
  refine run_sat ?_
  refine sat_lt (sat_grd (by simp) (sat_lt (sat_lt ?_)))
  have hn := pk_mem (ds := ds) (xs := ([(0 : Int), (1 : Int), (2 : Int), (4 : Int), (6 : Int), (7 : Int), (9 : Int)] : List Int)) (by simp)
  obtain ⟨n, en, hn9⟩ : ∃ n : Nat, pkV ds ([(0 : Int), (1 : Int), (2 : Int), (4 : Int), (6 : Int), (7 : Int), (9 : Int)] : List Int) = (n : Int) ∧ n ≤ 9 := by
    simp only [List.mem_cons, List.not_mem_nil, or_false] at hn
    exact ⟨(pkV ds ([(0 : Int), (1 : Int), (2 : Int), (4 : Int), (6 : Int), (7 : Int), (9 : Int)] : List Int)).toNat, by omega, by omega⟩
  rw [en]
  generalize tkD ds = d0
  refine sat_lt (sat_lt (sat_grd ⟨bnd_of (by omega), fun _ _ _ => by simp, by rw [rngI_len]; exact sz _ (by omega)⟩ ?_))
  have h9 := tkV_bd (ds := d0) (b := 9) (by decide)
  have h9' := tkV_bd (ds := tkD d0) (b := 9) (by decide)
  have h30 := tkV_bd (ds := tkD (tkD d0)) (b := 30) (by decide)
  have hs : ∀ y ∈ ([((1 : Int) + (tkV d0 (9 : Int))), ((1 : Int) + (tkV (tkD d0) (9 : Int))), (1000 : Int), ((1 : Int) + (tkV (tkD (tkD d0)) (30 : Int)))] : List Int), 1 ≤ y ∧ y ≤ 1000 := fun y hy => by
    simp only [List.mem_cons, List.not_mem_nil, or_false] at hy
    omega
  have hs0 : ([((1 : Int) + (tkV d0 (9 : Int))), ((1 : Int) + (tkV (tkD d0) (9 : Int))), (1000 : Int), ((1 : Int) + (tkV (tkD (tkD d0)) (30 : Int)))] : List Int) ≠ [] := by simp
  generalize ([((1 : Int) + (tkV d0 (9 : Int))), ((1 : Int) + (tkV (tkD d0) (9 : Int))), (1000 : Int), ((1 : Int) + (tkV (tkD (tkD d0)) (30 : Int)))] : List Int) = some_ at hs hs0 ⊢
  have hx := mapS_all (f := fun (x1 : Int) (d6 : List Nat) => ((pkV d6 some_), (tkD d6))) (p := fun y : Int => 1 ≤ y ∧ y ≤ 1000) (xs := rngI 0 (n : Int)) (s := tkD (tkD (tkD d0))) (fun x _ s => hs _ (pk_mem hs0))
  have hxl := mapS_len (fun (x1 : Int) (d6 : List Nat) => ((pkV d6 some_), (tkD d6))) (rngI 0 (n : Int)) (tkD (tkD (tkD d0)))
  generalize (mapS (fun (x1 : Int) (d6 : List Nat) => ((pkV d6 some_), (tkD d6))) (rngI 0 (n : Int)) (tkD (tkD (tkD d0)))) = MS at hx hxl ⊢
  obtain ⟨xs, d1⟩ := MS
  dsimp only at hx hxl ⊢
  rw [rngI_len] at hxl
  have hxl : xs.length = n := by omega
  subst hxl
  have hF : Fine xs := ⟨hx, by omega⟩
  refine sat_lt (sat_lt ?_)
  rw [choices_eq (by omega)]
  have hcl : (chs xs.length).length ≤ 512 := by
    rw [chs_len]
    exact Nat.le_trans (Nat.pow_le_pow_right (by decide) hn9) (by decide)
  have hci : ∀ c ∈ chs xs.length, (∀ x12 ∈ c, okIx xs x12) ∧ c.length < sizeLine := fun c hc => by
    have h1 := chs_mem.mp hc
    have h2 := cho_len hc
    exact ⟨fun i hi => okIx_int (h1.2 i hi).1 (h1.2 i hi).2, sz _ (by omega)⟩
  refine sat_grd rfl (sat_lt (sat_grd ⟨hci, sz _ (by rw [get_ok]; omega)⟩ ?_))
  rw [get_ok]
  show Sat _ (lt (sizes xs) _)
  refine sat_lt (sat_grd (bnd_of (by omega)) (sat_bindI (fun _ => True) (sat_forA (fun _ => True) trivial (fun q _ d2 _ => ?_) fun _ _ => trivial) fun d4 _ => ?_))
  · refine sat_grd ⟨by rw [show (sizes xs).length = (chs xs.length).length from List.length_map _]; exact szl _ (by simp only [List.length_cons, List.length_nil]; omega), by simp, by simp⟩ ?_
    obtain ⟨s, es, hs2⟩ : ∃ s : Nat, (if (if ((pkV d2 ((sizes xs) ++ ([(0 : Int), xs.sum, (20000 : Int)] : List Int))) + (pkV (tkD d2) ([(0 : Int), (0 : Int), (1 : Int), (-1 : Int)] : List Int))) < (20000 : Int) then ((pkV d2 ((sizes xs) ++ ([(0 : Int), xs.sum, (20000 : Int)] : List Int))) + (pkV (tkD d2) ([(0 : Int), (0 : Int), (1 : Int), (-1 : Int)] : List Int))) else (20000 : Int)) > (0 : Int) then (if ((pkV d2 ((sizes xs) ++ ([(0 : Int), xs.sum, (20000 : Int)] : List Int))) + (pkV (tkD d2) ([(0 : Int), (0 : Int), (1 : Int), (-1 : Int)] : List Int))) < (20000 : Int) then ((pkV d2 ((sizes xs) ++ ([(0 : Int), xs.sum, (20000 : Int)] : List Int))) + (pkV (tkD d2) ([(0 : Int), (0 : Int), (1 : Int), (-1 : Int)] : List Int))) else (20000 : Int)) else (0 : Int)) = (s : Int) ∧ s ≤ 20000 := by
      generalize ((pkV d2 ((sizes xs) ++ ([(0 : Int), xs.sum, (20000 : Int)] : List Int))) + (pkV (tkD d2) ([(0 : Int), (0 : Int), (1 : Int), (-1 : Int)] : List Int))) = t
      refine ⟨(if (if t < (20000 : Int) then t else (20000 : Int)) > (0 : Int) then (if t < (20000 : Int) then t else (20000 : Int)) else (0 : Int)).toNat, ?_, ?_⟩ <;> repeat' split
      all_goals omega
    rw [es]
    refine sat_lt (sat_lt ?_)
    generalize tkD (tkD d2) = d3
    have hb := bst_rch (s := s) hF.nn
    have hzl : (sizes xs).length = (chs xs.length).length := List.length_map _
    have hrl : (rngI 0 ((chs xs.length).length : Int)).length ≤ 512 := by rw [rngI_len]; omega
    have hok : ∀ i ∈ rngI 0 ((chs xs.length).length : Int), okIx (sizes xs) i ∧ okIx (chs xs.length) i := fun i hi => by
      rw [rngI_mem] at hi
      exact ⟨okIx_int hi.1 (by omega), okIx_int hi.1 hi.2⟩
    refine sat_grd ⟨bnd_of (by omega), fun i hi => (hok i hi).1, sz _ (by omega)⟩ ?_
    show Sat _ (lt (fits xs (s : Int)) _)
    refine sat_lt ?_
    have hfl : (fits xs (s : Int)).length ≤ 512 := by
      unfold fits
      rw [map_same]
      exact Nat.le_trans (List.length_filter_le _ _) hrl
    have hfo : ∀ i ∈ fits xs (s : Int), okIx (sizes xs) i ∧ okIx (chs xs.length) i := fun i hi => hok i (fits_sub hi).1
    have hm0 : 0 < ((fits xs (s : Int)).map fun i => ix (sizes xs) i).length := List.length_pos_of_mem (fs_mem.mpr ⟨hb.1, hb.2.1⟩)
    refine sat_grd ⟨fun i hi => (hfo i hi).1, sz _ (by omega), hm0⟩ ?_
    rw [most_eq hF]
    refine sat_lt (sat_grd ⟨fun i hi => ⟨(hfo i hi).1, fun _ => (hfo i hi).2⟩, sz _ (by omega)⟩ ?_)
    rw [best_eq hF]
    have hbl : (bests xs (bst s xs)).length ≤ 512 := Nat.le_trans (List.length_filter_le _ _) hcl
    refine sat_lt (sat_lt (sat_grd (bnd_of (by omega)) ?_))
    refine sat_bindI (fun f => f = (List.range xs.length).map fun i => wrd xs (bst s xs) i) ?_ fun f hf => ?_
    · refine sat_for (fun k f => f = (List.range k).map fun i => wrd xs (bst s xs) i) rfl ?_ (fun f hf => by rw [rngI_len] at hf; rw [hf] <;> congr 2 <;> omega)
      rintro k x f hk rfl
      obtain ⟨h1, h2⟩ := rngI_get hk
      have hxk : x = (k : Int) := by omega
      subst hxk
      have hw := word_eq (b := bst s xs) (i := k) (by omega) hb.1
      dsimp only at hw
      refine sat_grd (sz _ (by omega)) ?_
      rw [map_same]
      refine sat_lt (sat_grd ⟨?_, ?_, ?_⟩ (sat_lt (sat_nx ?_)))
      · exact ok2
      · exact ok2
      · rw [List.length_map, List.length_range]
        exact sz _ (by omega)
      · rw [hw, List.range_succ, List.map_append]
        rfl
    · subst hf
      obtain ⟨c, e1, c1, c2⟩ := told1 hF hs2
      have hcb : c ∈ bests xs (bst s xs) := bests_mem.mpr ⟨c1, c2⟩
      have hcl2 : c.length ≤ 9 := by have := cho_len (chs_mem.mpr c1); omega
      rw [e1]
      refine sat_grd rfl (sat_lt ?_)
      refine sat_grd ⟨fun i hi => (hfo i hi).1, sz _ (by omega), by rw [List.length_map]; show _ < scanBound; have : (1000 : Nat) < scanBound := (by decide); omega⟩ (sat_lt ?_)
      rw [due_eq hF, bests_cnt, get_ok]
      have ew : ((eL eD) (([(0 : Int), (2 : Int), (3 : Int), (4 : Int)] : List Int).map fun x90 : Int => (m__law_told x90 ((eT eI) xs) (s : Int)).get)) = (eL eD) [((eL eI) (acc s xs)), (eI (bst s xs)), (eI (cnt xs (bst s xs))), ((eL eS) ((List.range xs.length).map fun i => wrd xs (bst s xs) i))] := by
        simp only [List.map_cons, List.map_nil, told0 hF hs2, told2 hF hs2, told3 hF hs2, told4 hF hs2, get_ok]
      have ez : ∀ D : PyData, okD 8 D → m__law_same D D = .ok true := fun D h => same_ok h
      rw [ew]
      have eo : okD 8 ((eL eD) [((eL eI) (acc s xs)), (eI (bst s xs)), (eI (cnt xs (bst s xs))), ((eL eS) ((List.range xs.length).map fun i => wrd xs (bst s xs) i))]) := by
        refine okD_L (by simp) fun x hx => ?_
        simp only [List.mem_cons, List.not_mem_nil, or_false] at hx
        rcases hx with rfl | rfl | rfl | rfl
        · refine okD_L ?_ fun _ _ => okD_int _ _
          refine Nat.le_trans (List.length_filter_le _ _) ?_
          rw [rngI_len]
          omega
        · exact okD_int _ _
        · exact okD_int _ _
        · refine okD_L (by rw [List.length_map, List.length_range]; omega) fun w hw => ?_
          obtain ⟨i, _, rfl⟩ := List.mem_map.mp hw
          unfold wrd
          split
          · split <;> exact okD_str _ _
          · exact okD_str _ _
      rw [same_ok eo, get_ok]
      refine sat_grd ⟨fun x hx => ?_, sz _ (by simp), rfl⟩ (sat_f rfl ?_)
      · simp only [List.mem_cons, List.not_mem_nil, or_false] at hx
        rcases hx with rfl | rfl | rfl | rfl
        · rw [told0 hF hs2]; rfl
        · rw [told2 hF hs2]; rfl
        · rw [told3 hF hs2]; rfl
        · rw [told4 hF hs2]; rfl
      have ef : (((itemsD (eT eI c)).filter fun x97 : PyData => (isD x97 "bool")).map fun x97 : PyData => x97) = [] := by
        rw [map_same, List.filter_eq_nil_iff]
        intro y hy
        obtain ⟨i, _, rfl⟩ := List.mem_map.mp hy
        exact fun z => by cases z
      have hin : inD (eT eI c) ((bests xs (bst s xs)).map (eT eI)) = true := by
        rw [(plT plI).mem, inB_iff]
        exact hcb
      rw [ef, hin]
      refine sat_grd (fun _ => ⟨(plT plI).ok (by decide) c, fun _ => ⟨rfl, sz _ (by show (c.map eI).length < _; rw [List.length_map]; omega), (plL plI).ok (by decide) []⟩⟩) (sat_f rfl ?_)
      have hbne : bests xs (bst s xs) ≠ [] := fun z => by rw [z] at hcb; cases hcb
      have hene : chs xs.length ≠ [] := fun z => by
        have := chs_mem.mpr c1
        rw [z] at this
        cases this
      have hcut : (Z.cutD c none (some (1 : Int))).length ≤ 9 := Nat.le_trans (cut_le _ _ _) hcl2
      rw [tyTI_f]
      refine sat_grd ⟨hbne, hene, tyTI_p c, szl _ (by omega), szl _ (by simp only [List.length_cons, List.length_nil]; omega), bnd_of (by omega), fun _ _ _ => by omega, sz _ (by rw [rngI_len]; omega)⟩ ?_
      have hml := mapS_len (fun (x107 : Int) (d112 : List Nat) => ((tkV d112 ((xs.length : Int) + (1 : Int))), (tkD d112))) (rngI 0 (3 : Int)) (tkD (tkD d3))
      rw [rngI_len] at hml
      generalize (mapS (fun (x107 : Int) (d112 : List Nat) => ((tkV d112 ((xs.length : Int) + (1 : Int))), (tkD d112))) (rngI 0 (3 : Int)) (tkD (tkD d3))) = MS at hml ⊢
      refine sat_lt (sat_lt (sat_bindI (fun _ => True) (sat_forA (fun _ => True) trivial (fun y hy _ _ => ?_) fun _ _ => trivial) fun _ _ => sat_nx trivial))
      have hyl : y.length ≤ 100 := by
        simp only [List.mem_cons, List.not_mem_nil, or_false] at hy
        rcases hy with rfl | rfl | rfl | rfl | rfl | rfl | rfl
        · have := cho_len (chs_mem.mpr (bests_mem.mp (pk_mem (ds := d3) hbne)).1)
          omega
        · have := cho_len (pk_mem (ds := tkD d3) hene)
          omega
        · rw [List.length_reverse]
          omega
        · rw [List.length_append]
          omega
        · rw [List.length_append]
          show _ + 1 ≤ _
          omega
        · show 1 ≤ 100
          omega
        · omega
      have eq : (choB xs.length y && (sel xs y == bst s xs)) = inB y (bests xs (bst s xs)) := by
        rw [Bool.eq_iff_iff, inB_iff, bests_mem, Bool.and_eq_true, choB_iff, beq_iff_eq]
      rw [is_f hF hs2 (by omega), eq, get_ok, same_ok (okD_bool _ _)]
      exact sat_grd ⟨rfl, rfl⟩ (sat_f rfl (sat_nx trivial))
  · refine sat_grd ⟨⟨by simp, by decide, by decide, by simp⟩, by simp⟩ (sat_lt (sat_lt ?_))
    have hbad := bads_no _ (pk_mem (ds := d4) (xs := bads) (by unfold bads; simp))
    unfold bads at hbad
    generalize pkV d4 ([(eN ()), ((eL eI) ([(5 : Int)] : List Int)), ((eT eI) ([(0 : Int)] : List Int)), ((eT eI) ([(1001 : Int)] : List Int)), ((eT eB) ([true] : List Bool)), ((eT eS) ([("5" : Str)] : List Str)), ((eT eI) (List.replicate ((61 : Int)).toNat ([(5 : Int)] : List Int)).flatten), (eI (5 : Int))] : List PyData) = bad at hbad ⊢
    have hm1 : bothB (eT eI xs) (-1) = false := both_out rfl
    have hm2 : bothB (eT eI xs) 20001 = false := both_out rfl
    have hpk : ∀ d : List Nat, bothB (eT eI xs) (pkV d ([(-1 : Int), (20001 : Int)] : List Int)) = false := fun d => by
      have := pk_mem (ds := d) (xs := ([(-1 : Int), (20001 : Int)] : List Int)) (by simp)
      simp only [List.mem_cons, List.not_mem_nil, or_false] at this
      rcases this with h | h
      · rw [h]; exact hm1
      · rw [h]; exact hm2
    have hA : ((rngI 0 (5 : Int)).map fun x129 : Int => (m__law_told x129 bad (5 : Int)).get) = List.replicate 5 refV := by
      have : ∀ x ∈ rngI 0 (5 : Int), (m__law_told x bad (5 : Int)).get = refV := fun x hx => by
        have hx2 := rngI_mem.mp hx
        rw [told_x hbad hx2]
        rfl
      rw [List.map_congr_left this]
      rfl
    have hB : (mapS (fun (x134 : Int) (d139 : List Nat) => ((m__law_told x134 ((eT eI) xs) (pkV d139 ([(-1 : Int), (20001 : Int)] : List Int))).get, (tkD d139))) (rngI 0 (5 : Int)) (tkD d4)).1 = List.replicate 5 refV := by
      refine mapS_const fun x hx d => ?_
      have hx2 := rngI_mem.mp hx
      show (m__law_told x (eT eI xs) _).get = _
      rw [told_x (hpk d) hx2]
      rfl
    rw [hA, hB]
    refine sat_grd ⟨bnd_of (by omega), fun x hx => by rw [told_x hbad (rngI_mem.mp hx)]; rfl, sz _ (by rw [rngI_len]; omega), fun x hx d => ⟨by simp, by rw [told_x (hpk d) (rngI_mem.mp hx)]; rfl⟩, szl _ (by simp)⟩ (sat_lt (sat_lt ?_))
    rw [is_x hbad, is_x hm1, is_x hm2]
    have e8 : m__law_same ((eL eD) (((tyL tyD).f ((eL eD) (List.replicate 5 refV ++ List.replicate 5 refV))) ++ ([(Res.ok refV).get, (Res.ok refV).get, (Res.ok refV).get] : List PyData))) ((eL (eL eB)) (List.replicate ((13 : Int)).toNat ([([true, false, false, false, false] : List Bool)] : List (List Bool))).flatten) = .ok true := by
      have : ((eL eD) (((tyL tyD).f ((eL eD) (List.replicate 5 refV ++ List.replicate 5 refV))) ++ ([(Res.ok refV).get, (Res.ok refV).get, (Res.ok refV).get] : List PyData))) = ((eL (eL eB)) (List.replicate ((13 : Int)).toNat ([([true, false, false, false, false] : List Bool)] : List (List Bool))).flatten) := rfl
      rw [this]
      exact same_ok (okD_L (by decide) fun d hd => okD_L (by have : d = [true, false, false, false, false] := by simpa using hd
                                                             rw [this]; decide) fun _ _ => okD_bool _ _)
    rw [e8]
    exact sat_grd ⟨rfl, rfl, rfl, rfl, szl _ (by decide), ⟨by decide, by decide, szl _ (by simp)⟩, rfl⟩ (sat_rt rfl)
end W02

set_option Elab.async false
set_option linter.all false
set_option maxRecDepth 100000
set_option maxHeartbeats 4000000
namespace W02
open PySem PySem.Spec PyProof.Rows L2 Z Y
def dd (x : Str) (st : Stmt) : He.DefD := ⟨(x, none), x, x, defArgs st, defBody st, defScope st, [], []⟩
def fns : List He.DefD := [dd "is_within" s_is_within, dd "are_ascending" s_are_ascending, dd "are_lengths" s_are_lengths, dd "check_both" s_check_both, dd "counts_by" s_counts_by, dd "marks_by" s_marks_by, dd "has_sum" s_has_sum, dd "sums_in" s_sums_in, dd "sums_up_to" s_sums_up_to, dd "best_by" s_best_by, dd "fullest_length" s_fullest_length, dd "count_fullest" s_count_fullest, dd "fullest" s_fullest, dd "have_sum" s_have_sum, dd "words_for" s_words_for, dd "is_fullest" s_is_fullest, dd "_law_draws" s__law_draws, dd "_law_take" s__law_take, dd "_law_pick" s__law_pick, dd "_law_same" s__law_same, dd "_law_flags" s__law_flags, dd "_law_choices" s__law_choices, dd "_law_told" s__law_told, dd "_law_is" s__law_is, dd "law" s_law]
def fas : List He.Fa := [.glo "is_within", .glo "are_ascending", .glo "are_lengths", .glo "check_both", .glo "counts_by", .glo "marks_by", .glo "has_sum", .glo "sums_in", .glo "sums_up_to", .glo "best_by", .glo "fullest_length", .glo "count_fullest", .glo "fullest", .glo "have_sum", .glo "words_for", .glo "is_fullest", .glo "_law_draws", .glo "_law_take", .glo "_law_pick", .glo "_law_same", .glo "_law_flags", .glo "_law_choices", .glo "_law_told", .glo "_law_is", .glo "law", .glo "YardError", .glo "NotRight", .glo "NotThere", .glo "NoAnswer", .glo "TooLarge", .glo "Malformed", .free "isinstance", .free "int", .free "bool", .free "all", .free "zip", .free "tuple", .free "len", .free "dict", .free "range", .free "max", .free "any", .free "list", .free "enumerate", .free "reversed", .free "sum", .free "min", .free "sorted", .free "set", .free "abs", .free "str", .int "MOST_WAGONS_cuts" 300, .int "LONGEST_WAGON" 1000, .int "MOST_WAGONS_filling" 60, .int "LONGEST" 20000, .str "FREE" "free", .str "SURE" "sure", .str "OUT" "out", .exc "NotRight", .exm "NotRight" "YardError" true]
def fl_NotRight : List (Str × Bool) := [("NotRight", true), ("NotThere", false), ("NoAnswer", false), ("TooLarge", false), ("Malformed", false)]
def exK (K : PySem.W.Frag) : Bool := flagsB K "NotRight" fl_NotRight
abbrev R : PySem.W.OpenRow := PySem.W.OpenLaw.row PySem.Challenge.rw_humpyard_k02_whole_full_sidings_by_all_c
abbrev hk : PySem.W.Hook := He.hookX 5 fas fns [] [] exK
def ob (s : PySem.W.SharedT) : He.AlX := He.obsX 5 fas fns [] [] exK (HandSHeadRun.getT s)
theorem ob_eq (s : PySem.W.SharedT) : ob s = hk.obs s.abs := He.obsX_eq (HandSHeadRun.getT_eq s)
def caK (K : PySem.W.Frag) : Nat → Addr := fun c => [He.ga K "NotRight", He.ga K "NotThere", He.ga K "NoAnswer", He.ga K "TooLarge", He.ga K "Malformed"].getD c 0
def loose : List Str := (["YardError", "NotRight", "NotThere", "NoAnswer", "TooLarge", "Malformed", "is_within", "are_ascending", "MOST_WAGONS_cuts", "LONGEST_WAGON", "are_lengths", "MOST_WAGONS_filling"] : List Str) ++ (["LONGEST", "SURE", "OUT", "FREE", "check_both", "counts_by", "marks_by", "has_sum", "sums_in", "sums_up_to", "best_by", "fullest_length"] : List Str) ++ (["count_fullest", "fullest", "have_sum", "words_for", "is_fullest", "_law_draws", "_law_take", "_law_pick", "_law_same", "_law_flags", "_law_choices", "_law_told"] : List Str) ++ (["_law_is"] : List Str)
theorem run (w : World) : HandSHeadRun.RunEq R (PySem.W.view R.prog [41]) hk ob 6000 loose w := by
  intro os
  kernel_rfl
theorem facts {P : Program} {w : World} {K : PySem.W.Frag} {h : Heap} {mg : Str → Option Value} {f : Addr} (X : K.In h) (G : h.Ns mainGlobals mg) (hfa : mg ("law" : Str) = some (.ref f)) (c : He.SaysX fas fns [] [] exK w h K) :
    ∃ fd : FuncData, (∀ (s : Shared) (v : Value), BindsTo s fd ⟨[v], []⟩ [("script", v)]) ∧ ∀ base : Heap, K.In base → base.Ns mainGlobals mg → FnOk P w K mg base CX0 10 f fd ["script"] (lift K dLaw) := by
  obtain ⟨fd_is_within, F_is_within⟩ := c.t.d.def_ 0 (d := dd "is_within" s_is_within) rfl
  have G_is_within : Fun K "is_within" "is_within" s_is_within (He.ga K "is_within") fd_is_within := fun_of F_is_within
  have D_is_within : DefAt K mg "is_within" s_is_within ps_is_within (He.ga K "is_within") fd_is_within := ⟨He.glo_ok X G (c.t.d.fact 0 (f := .glo "is_within") rfl), G_is_within, G_is_within.binds (ps := ps_is_within) fun _ _ _ _ _ _ us hl => match us, hl with | [_, _, _], _ => rfl⟩
  obtain ⟨fd_are_ascending, F_are_ascending⟩ := c.t.d.def_ 1 (d := dd "are_ascending" s_are_ascending) rfl
  have G_are_ascending : Fun K "are_ascending" "are_ascending" s_are_ascending (He.ga K "are_ascending") fd_are_ascending := fun_of F_are_ascending
  have D_are_ascending : DefAt K mg "are_ascending" s_are_ascending ps_are_ascending (He.ga K "are_ascending") fd_are_ascending := ⟨He.glo_ok X G (c.t.d.fact 1 (f := .glo "are_ascending") rfl), G_are_ascending, G_are_ascending.binds (ps := ps_are_ascending) fun _ _ _ _ _ _ us hl => match us, hl with | [_], _ => rfl⟩
  obtain ⟨fd_are_lengths, F_are_lengths⟩ := c.t.d.def_ 2 (d := dd "are_lengths" s_are_lengths) rfl
  have G_are_lengths : Fun K "are_lengths" "are_lengths" s_are_lengths (He.ga K "are_lengths") fd_are_lengths := fun_of F_are_lengths
  have D_are_lengths : DefAt K mg "are_lengths" s_are_lengths ps_are_lengths (He.ga K "are_lengths") fd_are_lengths := ⟨He.glo_ok X G (c.t.d.fact 2 (f := .glo "are_lengths") rfl), G_are_lengths, G_are_lengths.binds (ps := ps_are_lengths) fun _ _ _ _ _ _ us hl => match us, hl with | [_], _ => rfl⟩
  obtain ⟨fd_check_both, F_check_both⟩ := c.t.d.def_ 3 (d := dd "check_both" s_check_both) rfl
  have G_check_both : Fun K "check_both" "check_both" s_check_both (He.ga K "check_both") fd_check_both := fun_of F_check_both
  have D_check_both : DefAt K mg "check_both" s_check_both ps_check_both (He.ga K "check_both") fd_check_both := ⟨He.glo_ok X G (c.t.d.fact 3 (f := .glo "check_both") rfl), G_check_both, G_check_both.binds (ps := ps_check_both) fun _ _ _ _ _ _ us hl => match us, hl with | [_, _], _ => rfl⟩
  obtain ⟨fd_counts_by, F_counts_by⟩ := c.t.d.def_ 4 (d := dd "counts_by" s_counts_by) rfl
  have G_counts_by : Fun K "counts_by" "counts_by" s_counts_by (He.ga K "counts_by") fd_counts_by := fun_of F_counts_by
  have D_counts_by : DefAt K mg "counts_by" s_counts_by ps_counts_by (He.ga K "counts_by") fd_counts_by := ⟨He.glo_ok X G (c.t.d.fact 4 (f := .glo "counts_by") rfl), G_counts_by, G_counts_by.binds (ps := ps_counts_by) fun _ _ _ _ _ _ us hl => match us, hl with | [_, _], _ => rfl⟩
  obtain ⟨fd_marks_by, F_marks_by⟩ := c.t.d.def_ 5 (d := dd "marks_by" s_marks_by) rfl
  have G_marks_by : Fun K "marks_by" "marks_by" s_marks_by (He.ga K "marks_by") fd_marks_by := fun_of F_marks_by
  have D_marks_by : DefAt K mg "marks_by" s_marks_by ps_marks_by (He.ga K "marks_by") fd_marks_by := ⟨He.glo_ok X G (c.t.d.fact 5 (f := .glo "marks_by") rfl), G_marks_by, G_marks_by.binds (ps := ps_marks_by) fun _ _ _ _ _ _ us hl => match us, hl with | [_, _], _ => rfl⟩
  obtain ⟨fd_has_sum, F_has_sum⟩ := c.t.d.def_ 6 (d := dd "has_sum" s_has_sum) rfl
  have G_has_sum : Fun K "has_sum" "has_sum" s_has_sum (He.ga K "has_sum") fd_has_sum := fun_of F_has_sum
  have D_has_sum : DefAt K mg "has_sum" s_has_sum ps_has_sum (He.ga K "has_sum") fd_has_sum := ⟨He.glo_ok X G (c.t.d.fact 6 (f := .glo "has_sum") rfl), G_has_sum, G_has_sum.binds (ps := ps_has_sum) fun _ _ _ _ _ _ us hl => match us, hl with | [_, _], _ => rfl⟩
  obtain ⟨fd_sums_in, F_sums_in⟩ := c.t.d.def_ 7 (d := dd "sums_in" s_sums_in) rfl
  have G_sums_in : Fun K "sums_in" "sums_in" s_sums_in (He.ga K "sums_in") fd_sums_in := fun_of F_sums_in
  have D_sums_in : DefAt K mg "sums_in" s_sums_in ps_sums_in (He.ga K "sums_in") fd_sums_in := ⟨He.glo_ok X G (c.t.d.fact 7 (f := .glo "sums_in") rfl), G_sums_in, G_sums_in.binds (ps := ps_sums_in) fun _ _ _ _ _ _ us hl => match us, hl with | [_, _], _ => rfl⟩
  obtain ⟨fd_sums_up_to, F_sums_up_to⟩ := c.t.d.def_ 8 (d := dd "sums_up_to" s_sums_up_to) rfl
  have G_sums_up_to : Fun K "sums_up_to" "sums_up_to" s_sums_up_to (He.ga K "sums_up_to") fd_sums_up_to := fun_of F_sums_up_to
  have D_sums_up_to : DefAt K mg "sums_up_to" s_sums_up_to ps_sums_up_to (He.ga K "sums_up_to") fd_sums_up_to := ⟨He.glo_ok X G (c.t.d.fact 8 (f := .glo "sums_up_to") rfl), G_sums_up_to, G_sums_up_to.binds (ps := ps_sums_up_to) fun _ _ _ _ _ _ us hl => match us, hl with | [_, _], _ => rfl⟩
  obtain ⟨fd_best_by, F_best_by⟩ := c.t.d.def_ 9 (d := dd "best_by" s_best_by) rfl
  have G_best_by : Fun K "best_by" "best_by" s_best_by (He.ga K "best_by") fd_best_by := fun_of F_best_by
  have D_best_by : DefAt K mg "best_by" s_best_by ps_best_by (He.ga K "best_by") fd_best_by := ⟨He.glo_ok X G (c.t.d.fact 9 (f := .glo "best_by") rfl), G_best_by, G_best_by.binds (ps := ps_best_by) fun _ _ _ _ _ _ us hl => match us, hl with | [_, _], _ => rfl⟩
  obtain ⟨fd_fullest_length, F_fullest_length⟩ := c.t.d.def_ 10 (d := dd "fullest_length" s_fullest_length) rfl
  have G_fullest_length : Fun K "fullest_length" "fullest_length" s_fullest_length (He.ga K "fullest_length") fd_fullest_length := fun_of F_fullest_length
  have D_fullest_length : DefAt K mg "fullest_length" s_fullest_length ps_fullest_length (He.ga K "fullest_length") fd_fullest_length := ⟨He.glo_ok X G (c.t.d.fact 10 (f := .glo "fullest_length") rfl), G_fullest_length, G_fullest_length.binds (ps := ps_fullest_length) fun _ _ _ _ _ _ us hl => match us, hl with | [_, _], _ => rfl⟩
  obtain ⟨fd_count_fullest, F_count_fullest⟩ := c.t.d.def_ 11 (d := dd "count_fullest" s_count_fullest) rfl
  have G_count_fullest : Fun K "count_fullest" "count_fullest" s_count_fullest (He.ga K "count_fullest") fd_count_fullest := fun_of F_count_fullest
  have D_count_fullest : DefAt K mg "count_fullest" s_count_fullest ps_count_fullest (He.ga K "count_fullest") fd_count_fullest := ⟨He.glo_ok X G (c.t.d.fact 11 (f := .glo "count_fullest") rfl), G_count_fullest, G_count_fullest.binds (ps := ps_count_fullest) fun _ _ _ _ _ _ us hl => match us, hl with | [_, _], _ => rfl⟩
  obtain ⟨fd_fullest, F_fullest⟩ := c.t.d.def_ 12 (d := dd "fullest" s_fullest) rfl
  have G_fullest : Fun K "fullest" "fullest" s_fullest (He.ga K "fullest") fd_fullest := fun_of F_fullest
  have D_fullest : DefAt K mg "fullest" s_fullest ps_fullest (He.ga K "fullest") fd_fullest := ⟨He.glo_ok X G (c.t.d.fact 12 (f := .glo "fullest") rfl), G_fullest, G_fullest.binds (ps := ps_fullest) fun _ _ _ _ _ _ us hl => match us, hl with | [_, _], _ => rfl⟩
  obtain ⟨fd_have_sum, F_have_sum⟩ := c.t.d.def_ 13 (d := dd "have_sum" s_have_sum) rfl
  have G_have_sum : Fun K "have_sum" "have_sum" s_have_sum (He.ga K "have_sum") fd_have_sum := fun_of F_have_sum
  have D_have_sum : DefAt K mg "have_sum" s_have_sum ps_have_sum (He.ga K "have_sum") fd_have_sum := ⟨He.glo_ok X G (c.t.d.fact 13 (f := .glo "have_sum") rfl), G_have_sum, G_have_sum.binds (ps := ps_have_sum) fun _ _ _ _ _ _ us hl => match us, hl with | [_, _, _], _ => rfl⟩
  obtain ⟨fd_words_for, F_words_for⟩ := c.t.d.def_ 14 (d := dd "words_for" s_words_for) rfl
  have G_words_for : Fun K "words_for" "words_for" s_words_for (He.ga K "words_for") fd_words_for := fun_of F_words_for
  have D_words_for : DefAt K mg "words_for" s_words_for ps_words_for (He.ga K "words_for") fd_words_for := ⟨He.glo_ok X G (c.t.d.fact 14 (f := .glo "words_for") rfl), G_words_for, G_words_for.binds (ps := ps_words_for) fun _ _ _ _ _ _ us hl => match us, hl with | [_, _], _ => rfl⟩
  obtain ⟨fd_is_fullest, F_is_fullest⟩ := c.t.d.def_ 15 (d := dd "is_fullest" s_is_fullest) rfl
  have G_is_fullest : Fun K "is_fullest" "is_fullest" s_is_fullest (He.ga K "is_fullest") fd_is_fullest := fun_of F_is_fullest
  have D_is_fullest : DefAt K mg "is_fullest" s_is_fullest ps_is_fullest (He.ga K "is_fullest") fd_is_fullest := ⟨He.glo_ok X G (c.t.d.fact 15 (f := .glo "is_fullest") rfl), G_is_fullest, G_is_fullest.binds (ps := ps_is_fullest) fun _ _ _ _ _ _ us hl => match us, hl with | [_, _, _], _ => rfl⟩
  obtain ⟨fd__law_draws, F__law_draws⟩ := c.t.d.def_ 16 (d := dd "_law_draws" s__law_draws) rfl
  have G__law_draws : Fun K "_law_draws" "_law_draws" s__law_draws (He.ga K "_law_draws") fd__law_draws := fun_of F__law_draws
  have D__law_draws : DefAt K mg "_law_draws" s__law_draws ps__law_draws (He.ga K "_law_draws") fd__law_draws := ⟨He.glo_ok X G (c.t.d.fact 16 (f := .glo "_law_draws") rfl), G__law_draws, G__law_draws.binds (ps := ps__law_draws) fun _ _ _ _ _ _ us hl => match us, hl with | [_], _ => rfl⟩
  obtain ⟨fd__law_take, F__law_take⟩ := c.t.d.def_ 17 (d := dd "_law_take" s__law_take) rfl
  have G__law_take : Fun K "_law_take" "_law_take" s__law_take (He.ga K "_law_take") fd__law_take := fun_of F__law_take
  have D__law_take : DefAt K mg "_law_take" s__law_take ps__law_take (He.ga K "_law_take") fd__law_take := ⟨He.glo_ok X G (c.t.d.fact 17 (f := .glo "_law_take") rfl), G__law_take, G__law_take.binds (ps := ps__law_take) fun _ _ _ _ _ _ us hl => match us, hl with | [_, _], _ => rfl⟩
  obtain ⟨fd__law_pick, F__law_pick⟩ := c.t.d.def_ 18 (d := dd "_law_pick" s__law_pick) rfl
  have G__law_pick : Fun K "_law_pick" "_law_pick" s__law_pick (He.ga K "_law_pick") fd__law_pick := fun_of F__law_pick
  have D__law_pick : DefAt K mg "_law_pick" s__law_pick ps__law_pick (He.ga K "_law_pick") fd__law_pick := ⟨He.glo_ok X G (c.t.d.fact 18 (f := .glo "_law_pick") rfl), G__law_pick, G__law_pick.binds (ps := ps__law_pick) fun _ _ _ _ _ _ us hl => match us, hl with | [_, _], _ => rfl⟩
  obtain ⟨fd__law_same, F__law_same⟩ := c.t.d.def_ 19 (d := dd "_law_same" s__law_same) rfl
  have G__law_same : Fun K "_law_same" "_law_same" s__law_same (He.ga K "_law_same") fd__law_same := fun_of F__law_same
  have D__law_same : DefAt K mg "_law_same" s__law_same ps__law_same (He.ga K "_law_same") fd__law_same := ⟨He.glo_ok X G (c.t.d.fact 19 (f := .glo "_law_same") rfl), G__law_same, G__law_same.binds (ps := ps__law_same) fun _ _ _ _ _ _ us hl => match us, hl with | [_, _], _ => rfl⟩
  obtain ⟨fd__law_flags, F__law_flags⟩ := c.t.d.def_ 20 (d := dd "_law_flags" s__law_flags) rfl
  have G__law_flags : Fun K "_law_flags" "_law_flags" s__law_flags (He.ga K "_law_flags") fd__law_flags := fun_of F__law_flags
  have D__law_flags : DefAt K mg "_law_flags" s__law_flags ps__law_flags (He.ga K "_law_flags") fd__law_flags := ⟨He.glo_ok X G (c.t.d.fact 20 (f := .glo "_law_flags") rfl), G__law_flags, G__law_flags.binds (ps := ps__law_flags) fun _ _ _ _ _ _ us hl => match us, hl with | [_], _ => rfl⟩
  obtain ⟨fd__law_choices, F__law_choices⟩ := c.t.d.def_ 21 (d := dd "_law_choices" s__law_choices) rfl
  have G__law_choices : Fun K "_law_choices" "_law_choices" s__law_choices (He.ga K "_law_choices") fd__law_choices := fun_of F__law_choices
  have D__law_choices : DefAt K mg "_law_choices" s__law_choices ps__law_choices (He.ga K "_law_choices") fd__law_choices := ⟨He.glo_ok X G (c.t.d.fact 21 (f := .glo "_law_choices") rfl), G__law_choices, G__law_choices.binds (ps := ps__law_choices) fun _ _ _ _ _ _ us hl => match us, hl with | [_], _ => rfl⟩
  obtain ⟨fd__law_told, F__law_told⟩ := c.t.d.def_ 22 (d := dd "_law_told" s__law_told) rfl
  have G__law_told : Fun K "_law_told" "_law_told" s__law_told (He.ga K "_law_told") fd__law_told := fun_of F__law_told
  have D__law_told : DefAt K mg "_law_told" s__law_told ps__law_told (He.ga K "_law_told") fd__law_told := ⟨He.glo_ok X G (c.t.d.fact 22 (f := .glo "_law_told") rfl), G__law_told, G__law_told.binds (ps := ps__law_told) fun _ _ _ _ _ _ us hl => match us, hl with | [_, _, _], _ => rfl⟩
  obtain ⟨fd__law_is, F__law_is⟩ := c.t.d.def_ 23 (d := dd "_law_is" s__law_is) rfl
  have G__law_is : Fun K "_law_is" "_law_is" s__law_is (He.ga K "_law_is") fd__law_is := fun_of F__law_is
  have D__law_is : DefAt K mg "_law_is" s__law_is ps__law_is (He.ga K "_law_is") fd__law_is := ⟨He.glo_ok X G (c.t.d.fact 23 (f := .glo "_law_is") rfl), G__law_is, G__law_is.binds (ps := ps__law_is) fun _ _ _ _ _ _ us hl => match us, hl with | [_, _, _], _ => rfl⟩
  obtain ⟨fd_law, F_law⟩ := c.t.d.def_ 24 (d := dd "law" s_law) rfl
  have G_law : Fun K "law" "law" s_law (He.ga K "law") fd_law := fun_of F_law
  have D_law : DefAt K mg "law" s_law ps_law (He.ga K "law") fd_law := ⟨He.glo_ok X G (c.t.d.fact 24 (f := .glo "law") rfl), G_law, G_law.binds (ps := ps_law) fun _ _ _ _ _ _ us hl => match us, hl with | [_], _ => rfl⟩
  have B_isinstance : mg "isinstance" = none := He.free_ok X G (c.t.d.fact 31 (f := .free "isinstance") rfl)
  have B_int : mg "int" = none := He.free_ok X G (c.t.d.fact 32 (f := .free "int") rfl)
  have B_bool : mg "bool" = none := He.free_ok X G (c.t.d.fact 33 (f := .free "bool") rfl)
  have B_all : mg "all" = none := He.free_ok X G (c.t.d.fact 34 (f := .free "all") rfl)
  have B_zip : mg "zip" = none := He.free_ok X G (c.t.d.fact 35 (f := .free "zip") rfl)
  have B_tuple : mg "tuple" = none := He.free_ok X G (c.t.d.fact 36 (f := .free "tuple") rfl)
  have B_len : mg "len" = none := He.free_ok X G (c.t.d.fact 37 (f := .free "len") rfl)
  have B_dict : mg "dict" = none := He.free_ok X G (c.t.d.fact 38 (f := .free "dict") rfl)
  have B_range : mg "range" = none := He.free_ok X G (c.t.d.fact 39 (f := .free "range") rfl)
  have B_max : mg "max" = none := He.free_ok X G (c.t.d.fact 40 (f := .free "max") rfl)
  have B_any : mg "any" = none := He.free_ok X G (c.t.d.fact 41 (f := .free "any") rfl)
  have B_list : mg "list" = none := He.free_ok X G (c.t.d.fact 42 (f := .free "list") rfl)
  have B_enumerate : mg "enumerate" = none := He.free_ok X G (c.t.d.fact 43 (f := .free "enumerate") rfl)
  have B_reversed : mg "reversed" = none := He.free_ok X G (c.t.d.fact 44 (f := .free "reversed") rfl)
  have B_sum : mg "sum" = none := He.free_ok X G (c.t.d.fact 45 (f := .free "sum") rfl)
  have B_min : mg "min" = none := He.free_ok X G (c.t.d.fact 46 (f := .free "min") rfl)
  have B_sorted : mg "sorted" = none := He.free_ok X G (c.t.d.fact 47 (f := .free "sorted") rfl)
  have B_set : mg "set" = none := He.free_ok X G (c.t.d.fact 48 (f := .free "set") rfl)
  have B_abs : mg "abs" = none := He.free_ok X G (c.t.d.fact 49 (f := .free "abs") rfl)
  have B_str : mg "str" = none := He.free_ok X G (c.t.d.fact 50 (f := .free "str") rfl)
  obtain ⟨t_MOST_WAGONS_cuts, c_MOST_WAGONS_cuts⟩ := He.int_ok X G (c.t.d.fact 51 (f := .int "MOST_WAGONS_cuts" 300) rfl)
  obtain ⟨t_LONGEST_WAGON, c_LONGEST_WAGON⟩ := He.int_ok X G (c.t.d.fact 52 (f := .int "LONGEST_WAGON" 1000) rfl)
  obtain ⟨t_MOST_WAGONS_filling, c_MOST_WAGONS_filling⟩ := He.int_ok X G (c.t.d.fact 53 (f := .int "MOST_WAGONS_filling" 60) rfl)
  obtain ⟨t_LONGEST, c_LONGEST⟩ := He.int_ok X G (c.t.d.fact 54 (f := .int "LONGEST" 20000) rfl)
  obtain ⟨t_FREE, c_FREE⟩ := He.str_ok X G (c.t.d.fact 55 (f := .str "FREE" "free") rfl)
  obtain ⟨t_SURE, c_SURE⟩ := He.str_ok X G (c.t.d.fact 56 (f := .str "SURE" "sure") rfl)
  obtain ⟨t_OUT, c_OUT⟩ := He.str_ok X G (c.t.d.fact 57 (f := .str "OUT" "out") rfl)
  have g_YardError : mg "YardError" = some (.ref (He.ga K "YardError")) := He.glo_ok X G (c.t.d.fact 25 (f := .glo "YardError") rfl)
  have g_NotRight : mg "NotRight" = some (.ref (He.ga K "NotRight")) := He.glo_ok X G (c.t.d.fact 26 (f := .glo "NotRight") rfl)
  have g_NotThere : mg "NotThere" = some (.ref (He.ga K "NotThere")) := He.glo_ok X G (c.t.d.fact 27 (f := .glo "NotThere") rfl)
  have g_NoAnswer : mg "NoAnswer" = some (.ref (He.ga K "NoAnswer")) := He.glo_ok X G (c.t.d.fact 28 (f := .glo "NoAnswer") rfl)
  have g_TooLarge : mg "TooLarge" = some (.ref (He.ga K "TooLarge")) := He.glo_ok X G (c.t.d.fact 29 (f := .glo "TooLarge") rfl)
  have g_Malformed : mg "Malformed" = some (.ref (He.ga K "Malformed")) := He.glo_ok X G (c.t.d.fact 30 (f := .glo "Malformed") rfl)
  have E_NotRight : ErrAt K mg "NotRight" (He.ga K "NotRight") := err_ok X G (c.t.d.fact 58 (f := .exc "NotRight") rfl) (c.t.d.fact 26 (f := .glo "NotRight") rfl)
  have m_NotRight : PySem.W.exmOne K (.ref (He.ga K "NotRight")) (.ref (He.ga K "YardError")) = some true := He.exm_ok (c.t.d.fact 59 (f := .exm "NotRight" "YardError" true) rfl)
  have hex := c.more
  unfold exK at hex
  have f_NotRight := hex
  have X_NotRight := flags_ok f_NotRight
  have FL : ∀ c ∈ ([0] : List Nat), FlagsAt K (caK K c) [He.ga K "NotRight", He.ga K "NotThere", He.ga K "NoAnswer", He.ga K "TooLarge", He.ga K "Malformed"] (flV c) := by
    intro c hc
    simp only [List.mem_cons, List.not_mem_nil, or_false] at hc
    rcases hc with rfl
    · exact X_NotRight
  have EX : ∀ c ∈ ([0] : List Nat), PySem.W.exmOne K (.ref (caK K c)) (.ref (He.ga K "YardError")) = some true := by
    intro c hc
    simp only [List.mem_cons, List.not_mem_nil, or_false] at hc
    rcases hc with rfl
    · exact m_NotRight
  have e := hfa.symm.trans D_law.g
  cases e
  refine ⟨fd_law, fun s v => (FunD.bindsA (ps := ["script"]) (show FunD K "law" "law" (defArgs s_law) (defBody s_law) (defScope s_law) [] [] (He.ga K "law") fd_law from F_law) fun _ _ _ _ _ _ us hl => match us, hl with | [_], _ => rfl) s [v] rfl, fun base _ _ => ?_⟩
  have H__law_take : Has P w K mg base 1 "_law_take" ps__law_take d_take := ok__law_take D__law_take B_len B_int
  have H__law_pick : Has P w K mg base 2 "_law_pick" ps__law_pick d_pick := ok__law_pick D__law_pick B_len H__law_take
  have H__law_draws : Has P w K mg base 1 "_law_draws" ps__law_draws d_draws := ok__law_draws D__law_draws B_int B_abs B_range B_list B_reversed
  have H__law_same : Has P w K mg base 9 "_law_same" ps__law_same d_same := okS__law_same D__law_same B_len B_range B_isinstance B_tuple B_list B_dict B_bool B_int B_str
  have H__law_flags : HasQ P w K mg base 1 "_law_flags" ps__law_flags (spFlags K _) := ok__law_flags D__law_flags B_isinstance ⟨g_NotRight, g_NotThere, g_NoAnswer, g_TooLarge, g_Malformed⟩
  have H_is_within := ok_is_within (P := P) (w := w) (base := base) D_is_within (caK K) B_isinstance B_int B_bool
  have H_are_ascending := ok_are_ascending (P := P) (w := w) (base := base) D_are_ascending (caK K) B_all B_zip
  have H_are_lengths := ok_are_lengths (P := P) (w := w) (base := base) D_are_lengths (caK K) B_all B_isinstance B_tuple B_len c_MOST_WAGONS_cuts c_LONGEST_WAGON H_is_within
  have H_check_both := ok_check_both (P := P) (w := w) (base := base) D_check_both (caK K) B_len c_MOST_WAGONS_filling c_LONGEST E_NotRight H_is_within H_are_lengths
  have H_counts_by := ok_counts_by (P := P) (w := w) (base := base) D_counts_by (caK K) B_dict
  have H_marks_by := ok_marks_by (P := P) (w := w) (base := base) D_marks_by (caK K)
  have H_has_sum := ok_has_sum (P := P) (w := w) (base := base) D_has_sum (caK K)
  have H_sums_in := ok_sums_in (P := P) (w := w) (base := base) D_sums_in (caK K) B_range H_has_sum
  have H_sums_up_to := ok_sums_up_to (P := P) (w := w) (base := base) D_sums_up_to (caK K) H_check_both H_sums_in H_marks_by
  have H_best_by := ok_best_by (P := P) (w := w) (base := base) D_best_by (caK K) H_sums_in H_marks_by
  have H_fullest_length := ok_fullest_length (P := P) (w := w) (base := base) D_fullest_length (caK K) H_check_both H_best_by
  have H_count_fullest := ok_count_fullest (P := P) (w := w) (base := base) D_count_fullest (caK K) B_max H_check_both H_counts_by
  have H_fullest := ok_fullest (P := P) (w := w) (base := base) D_fullest (caK K) B_range B_tuple B_len H_check_both H_marks_by H_best_by H_has_sum
  have H_have_sum := ok_have_sum (P := P) (w := w) (base := base) D_have_sum (caK K) B_any B_range H_has_sum
  have H_words_for := ok_words_for (P := P) (w := w) (base := base) D_words_for (caK K) B_list B_enumerate B_reversed c_FREE c_SURE c_OUT H_check_both H_best_by H_marks_by H_have_sum
  have H_is_fullest := ok_is_fullest (P := P) (w := w) (base := base) D_is_fullest (caK K) B_sum B_all B_len H_check_both H_best_by H_are_ascending H_is_within
  have H__law_choices := ok__law_choices (P := P) (w := w) (base := base) D__law_choices (caK K) B_range
  have H__law_told := ok__law_told (P := P) (w := w) (base := base) D__law_told (caK K) g_YardError H__law_flags FL EX H_sums_up_to H_fullest H_fullest_length H_count_fullest H_words_for
  have H__law_is := ok__law_is (P := P) (w := w) (base := base) D__law_is (caK K) g_YardError H__law_flags FL EX H_is_fullest
  exact ok_law D_law (caK K) B_tuple B_range B_sum B_max B_min B_len B_sorted B_set B_isinstance B_int B_bool H__law_draws H__law_pick H__law_choices H__law_same H__law_told H__law_take H__law_is law_ok
end W02
open PySem PySem.W PySem.Calls PyProof.Rows
set_option maxHeartbeats 0 in
theorem PySem.Challenge.cw_humpyard_k02_whole_full_sidings_by_all_c_holds : PySem.Challenge.rw_humpyard_k02_whole_full_sidings_by_all_c.Holds := by
  w_on; o_law
  refine HandSHeadRun.head_any (r := OpenLaw.row PySem.Challenge.rw_humpyard_k02_whole_full_sidings_by_all_c) (q := view (OpenLaw.row PySem.Challenge.rw_humpyard_k02_whole_full_sidings_by_all_c).prog [41]) (H := W02.hk) (ob := W02.ob) (M := 6000) (loose := W02.loose) (d := HandSHeadRun.topDef (OpenLaw.row PySem.Challenge.rw_humpyard_k02_whole_full_sidings_by_all_c).prog 41) (kwd := []) W02.ob_eq
    (by kernel_rfl) (fun s => by kernel_rfl) W02.run (by kernel_rfl) (by kernel_rfl) (by kernel_rfl) (by rfl) (by first | assumption | decide +kernel) (by decide +kernel) ⟨rfl, rfl, rfl, rfl, rfl, by decide +kernel⟩ ?hw ?hc
  case hw => w_witness2
  case hc =>
    refine L2.walk_ofE (l := PySem.Challenge.rw_humpyard_k02_whole_full_sidings_by_all_c) (n := 63) (k := 10) (x := "script") (CX := L2.CX0) rfl (by decide) (by kernel_rfl) ⟨rfl, by decide, by decide⟩ ?F (fun _ _ _ _ z => z)
    intro w mg fa h Y G hmg0
    obtain ⟨K, KX, c⟩ := Y
    have hmg : mg ("law" : PySem.Str) = some (.ref fa) := by
      have e : (HandSHeadRun.topDef (OpenLaw.row PySem.Challenge.rw_humpyard_k02_whole_full_sidings_by_all_c).prog 41).name = ("law" : PySem.Str) := by kernel_rfl
      rw [← e]
      exact hmg0
    obtain ⟨fd, hb, hF⟩ := W02.facts (P := (PySem.Challenge.rw_humpyard_k02_whole_full_sidings_by_all_c).prog) (w := w) KX G hmg c
    exact ⟨K, fd, Z.lift K W02.dLaw, KX, hb, fun H a ns hl _ hS => Z.law_start W02.dLaw (fun k x hk => ⟨ns, rfl, hl, rfl, hk⟩) hS, hF⟩
