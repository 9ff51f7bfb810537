import PyProof.Rows.All
import Wide.All
import OpenK.AllK
import Wide.FinOn
import HandS.ForMost
import HandS.ExcOwn
import HandS.IsInst
import HandS.Style
import HandS.Flow
import HandS.Wide
import HandS.WordsExc
import HandS.Comp
import HandS.Iter
import HandS.Zip
import HandS.Rev
import KE.GoesNew
import HandS.TupAny
import HandS.TupMul
import HandS.SetFor
import HandS.Text
import PyProof.Rows.CountFlat
import KE.KDictList
import HandS.HotCalls
import HandS.ExcIs
import HandS.EndBits
import HandS.Defaults
import HandS.Head0
import HandS.Head1
import HandS.Head2
import HandS.HeadEnd
import HandS.HeadHook1
import HandS.HeadHook2
import HandS.HeadHook3
import HandS.HeadHook4
import HandS.Star
import HandS.SortInts
import KE.DataMinMax
import HandS.Strs
import PyProof.Rows.SortShellAny
import HandS.RaiseMore
import PySem.Challenge.RW_humpyard_k03_whole_numbers_of_wagons
import KE.IntTextLaws
set_option Elab.async false
set_option linter.all false
set_option maxRecDepth 100000
set_option maxHeartbeats 2000000
/-! Z: readings at the level of plain data. A value is data (never written again), an owned object (a list that is still written; it stands in the
ledger), or a raw value. -/
namespace Z
open PySem PySem.Spec PyProof.Rows L2

/-- an owned object's content: some list of numbers that are not negative (the draws), a list of data -/
inductive Mo where
  | drw
  | lst (ds : List PyData)
  | dct (kvs : List (Key × PyData))
/-- what kind of object -/
def Mo.ty : Mo → String
  | .dct _ => "dict"
  | _ => "list"
abbrev Led := List (Addr × Mo)
abbrev Led.ks (L : Led) : List Addr := L.map Prod.fst
inductive Rs where
  | dat (d : PyData)
  | own (a : Addr)
  | raw (v : V)
  | scr (ns : List Int)
abbrev Ev := List (Option Rs)

def natV (n : Nat) : V := .int (n : Int)

def hid (L : Led) (H : Hp) : Hp := fun a => if a ∈ L.ks then none else H a
theorem hid_in {L : Led} {H : Hp} {a : Addr} (h : a ∈ L.ks) : hid L H a = none := if_pos h
theorem hid_out {L : Led} {H : Hp} {a : Addr} (h : a ∉ L.ks) : hid L H a = H a := if_neg h
def Ext (H H' : Hp) : Prop := ∀ a o, H a = some o → H' a = some o
theorem Ext.refl (H : Hp) : Ext H H := fun _ _ h => h
theorem Ext.trans {H H1 H2 : Hp} (a : Ext H H1) (b : Ext H1 H2) : Ext H H2 := fun x o h => b x o (a x o h)
theorem hid_sub {L : Led} {H : Hp} : Ext (hid L H) H := fun a o h => by
  unfold hid at h
  split at h
  · cases h
  · exact h
theorem ext_rd {H H' : Hp} {a : Addr} {u : HO} (e : Ext H H') (h : Rd H a u) : Rd H' a u := by
  rcases h with h | ⟨o, h⟩
  · exact .inl (e _ _ h)
  · exact .inr ⟨o, e _ _ h⟩
theorem ext_l {K : PySem.W.Frag} {H H' : Hp} {a : Addr} {xs : List V} (e : Ext H H') (h : SqL K H a xs) : SqL K H' a xs := by
  rcases h with h | h
  · exact .inl (ext_rd e h)
  · exact .inr h
theorem ext_t {K : PySem.W.Frag} {H H' : Hp} {a : Addr} {xs : List V} (e : Ext H H') (h : SqT K H a xs) : SqT K H' a xs := by
  rcases h with h | h
  · exact .inl (ext_rd e h)
  · exact .inr h
/-- the keys of dicts as data -/
def kD : Key → PyData
  | .inl i => .int i
  | .inr x => .str x
mutual
inductive Rp (K : PySem.W.Frag) (H : Hp) : V → PyData → Prop
  | non : Rp K H .non .none
  | bl (b : Bool) : Rp K H (.bl b) (.bool b)
  | int (i : Int) : Rp K H (.int i) (.int i)
  | str (x : Str) : Rp K H (.str x) (.str x)
  | lst {a : Addr} {xs : List V} {ds : List PyData} : H a = some (.lst xs) → RpAll K H xs ds → Rp K H (.ref a) (.list ds)
  | tup {a : Addr} {xs : List V} {ds : List PyData} : SqT K H a xs → RpAll K H xs ds → Rp K H (.ref a) (.tuple ds)
  | dct {a : Addr} {kvs : List (Key × V)} {ds : List (PyData × PyData)} : H a = some (.dK kvs) → RpKv K H kvs ds → Rp K H (.ref a) (.dict ds)
inductive RpAll (K : PySem.W.Frag) (H : Hp) : List V → List PyData → Prop
  | nil : RpAll K H [] []
  | cons {v : V} {vs : List V} {d : PyData} {ds : List PyData} : Rp K H v d → RpAll K H vs ds → RpAll K H (v :: vs) (d :: ds)
inductive RpKv (K : PySem.W.Frag) (H : Hp) : List (Key × V) → List (PyData × PyData) → Prop
  | nil : RpKv K H [] []
  | cons {k : Key} {v : V} {vs : List (Key × V)} {d : PyData} {ds : List (PyData × PyData)} : Rp K H v d → RpKv K H vs ds → RpKv K H ((k, v) :: vs) ((kD k, d) :: ds)
end
mutual
theorem rp_mono {K : PySem.W.Frag} {H H' : Hp} (e : Ext H H') : ∀ {v : V} {d : PyData}, Rp K H v d → Rp K H' v d
  | _, _, .non => .non
  | _, _, .bl b => .bl b
  | _, _, .int i => .int i
  | _, _, .str x => .str x
  | _, _, .lst s h => .lst (e _ _ s) (rpAll_mono e h)
  | _, _, .tup s h => .tup (ext_t e s) (rpAll_mono e h)
  | _, _, .dct s h => .dct (e _ _ s) (rpKv_mono e h)
theorem rpAll_mono {K : PySem.W.Frag} {H H' : Hp} (e : Ext H H') : ∀ {vs : List V} {ds : List PyData}, RpAll K H vs ds → RpAll K H' vs ds
  | _, _, .nil => .nil
  | _, _, .cons h t => .cons (rp_mono e h) (rpAll_mono e t)
theorem rpKv_mono {K : PySem.W.Frag} {H H' : Hp} (e : Ext H H') : ∀ {vs : List (Key × V)} {ds : List (PyData × PyData)}, RpKv K H vs ds → RpKv K H' vs ds
  | _, _, .nil => .nil
  | _, _, .cons h t => .cons (rp_mono e h) (rpKv_mono e t)
end
section
variable {K : PySem.W.Frag} {H : Hp}
theorem rpAll_len : ∀ {vs : List V} {ds : List PyData}, RpAll K H vs ds → vs.length = ds.length
  | _, _, .nil => rfl
  | _, _, .cons _ t => by rw [List.length_cons, List.length_cons, rpAll_len t]
theorem rpAll_get : ∀ {vs : List V} {ds : List PyData} {i : Nat} {d : PyData}, RpAll K H vs ds → ds[i]? = some d → ∃ v, vs[i]? = some v ∧ Rp K H v d
  | _, _, _, _, .nil, h => by simp at h
  | _, _, 0, _, .cons h _, e => ⟨_, rfl, by simp at e; subst e; exact h⟩
  | _, _, i + 1, _, .cons _ t, e => by
    obtain ⟨v, h1, h2⟩ := rpAll_get (i := i) t (by simpa using e)
    exact ⟨v, by simpa using h1, h2⟩
theorem rpAll_at : ∀ {vs : List V} {ds : List PyData} {i : Nat} {v : V}, RpAll K H vs ds → vs[i]? = some v → ∃ d, ds[i]? = some d ∧ Rp K H v d
  | _, _, _, _, .nil, h => by simp at h
  | _, _, 0, _, .cons h _, e => ⟨_, rfl, by simp at e; subst e; exact h⟩
  | _, _, i + 1, _, .cons _ t, e => by
    obtain ⟨v, h1, h2⟩ := rpAll_at (i := i) t (by simpa using e)
    exact ⟨v, by simpa using h1, h2⟩
theorem rpAll_app : ∀ {vs ws : List V} {ds es : List PyData}, RpAll K H vs ds → RpAll K H ws es → RpAll K H (vs ++ ws) (ds ++ es)
  | _, _, _, _, .nil, s => s
  | _, _, _, _, .cons h t, s => .cons h (rpAll_app t s)
theorem rpAll_one {v : V} {d : PyData} (h : Rp K H v d) : RpAll K H [v] [d] := .cons h .nil
theorem rpAll_map {α : Type} {f : α → V} {g : α → PyData} : ∀ (l : List α), (∀ x ∈ l, Rp K H (f x) (g x)) → RpAll K H (l.map f) (l.map g)
  | [], _ => .nil
  | x :: r, h => .cons (h x List.mem_cons_self) (rpAll_map r fun y hy => h y (List.mem_cons_of_mem _ hy))
theorem rpAll_ints (l : List Int) : RpAll K H (l.map V.int) (l.map PyData.int) := rpAll_map l fun x _ => .int x
theorem rpAll_strs (l : List Str) : RpAll K H (l.map V.str) (l.map PyData.str) := rpAll_map l fun x _ => .str x
theorem rpAll_bools (l : List Bool) : RpAll K H (l.map V.bl) (l.map PyData.bool) := rpAll_map l fun x _ => .bl x
theorem ints_of : ∀ {vs : List V} {l : List Int}, RpAll K H vs (l.map PyData.int) → vs = l.map V.int
  | _, [], .nil => rfl
  | _, i :: r, .cons h t => by
    cases h
    rw [ints_of t] <;> rfl
theorem strs_of : ∀ {vs : List V} {l : List Str}, RpAll K H vs (l.map PyData.str) → vs = l.map V.str
  | _, [], .nil => rfl
  | _, i :: r, .cons h t => by
    cases h
    rw [strs_of t] <;> rfl
theorem bools_of : ∀ {vs : List V} {l : List Bool}, RpAll K H vs (l.map PyData.bool) → vs = l.map V.bl
  | _, [], .nil => rfl
  | _, i :: r, .cons h t => by
    cases h
    rw [bools_of t] <;> rfl
theorem rpAll_take : ∀ {vs : List V} {ds : List PyData} (n : Nat), RpAll K H vs ds → RpAll K H (vs.take n) (ds.take n)
  | _, _, 0, _ => .nil
  | _, _, _ + 1, .nil => .nil
  | _, _, n + 1, .cons h t => .cons h (rpAll_take n t)
theorem rpAll_drop : ∀ {vs : List V} {ds : List PyData} (n : Nat), RpAll K H vs ds → RpAll K H (vs.drop n) (ds.drop n)
  | _, _, 0, r => r
  | _, _, _ + 1, .nil => .nil
  | _, _, n + 1, .cons _ t => rpAll_drop n t
theorem rpAll_set {v : V} {d : PyData} (h : Rp K H v d) : ∀ {vs : List V} {ds : List PyData} (n : Nat), RpAll K H vs ds → RpAll K H (vs.set n v) (ds.set n d)
  | _, _, _, .nil => .nil
  | _, _, 0, .cons _ t => .cons h t
  | _, _, n + 1, .cons q t => .cons q (rpAll_set h n t)
theorem rpAll_rev : ∀ {vs : List V} {ds : List PyData}, RpAll K H vs ds → RpAll K H vs.reverse ds.reverse
  | _, _, .nil => .nil
  | _, _, .cons h t => by
    rw [List.reverse_cons, List.reverse_cons]
    exact rpAll_app (rpAll_rev t) (rpAll_one h)
/-! without dicts: data as the library has it -/
mutual
def flatD : PyData → Bool
  | .dict _ => false
  | .list xs => flatAll xs
  | .tuple xs => flatAll xs
  | _ => true
def flatAll : List PyData → Bool
  | [] => true
  | x :: xs => flatD x && flatAll xs
end
mutual
theorem rp_dp : ∀ {v : V} {d : PyData}, Rp K H v d → flatD d = true → Dp K H v d
  | _, _, .non, _ => .non
  | _, _, .bl b, _ => .bl b
  | _, _, .int i, _ => .int i
  | _, _, .str x, _ => .str x
  | _, _, .lst s h, f => .lst (SqL.of s) (rpAll_dp h (by simpa [flatD] using f))
  | _, _, .tup s h, f => .tup s (rpAll_dp h (by simpa [flatD] using f))
  | _, _, .dct s h, f => by simp [flatD] at f
theorem rpAll_dp : ∀ {vs : List V} {ds : List PyData}, RpAll K H vs ds → flatAll ds = true → DpAll K H vs ds
  | _, _, .nil, _ => .nil
  | _, _, .cons h t, f => by
    simp only [flatAll, Bool.and_eq_true] at f
    exact .cons (rp_dp h f.1) (rpAll_dp t f.2)
end
end

/-! ### what holds of values, of the ledger, of the names -/
section
variable (K : PySem.W.Frag)
def RsOk (L : Led) (H : Hp) (v : V) : Rs → Prop
  | .dat d => Rp K (hid L H) v d
  | .own a => v = .ref a ∧ a ∈ L.ks
  | .raw w => v = w
  | .scr ns => ∃ a, v = .ref a ∧ SqL K (hid L H) a (ns.map V.int)
def MoOk (L : Led) (H : Hp) (a : Addr) : Mo → Prop
  | .drw => ∃ ns : List Nat, H a = some (.lst (ns.map natV))
  | .lst ds => ∃ xs, H a = some (.lst xs) ∧ RpAll K (hid L H) xs ds
  | .dct kvs => ∃ xs, H a = some (.dK xs) ∧ RpKv K (hid L H) xs (kvs.map fun p => (kD p.1, p.2))
structure LOk (L : Led) (H : Hp) : Prop where
  nd : L.ks.Nodup
  at_ : ∀ p ∈ L, MoOk K L H p.1 p.2
structure Rel (L : Led) (ε : Ev) (σ : L2.St) (H : Hp) : Prop where
  len : σ.length = ε.length
  slot : ∀ (i : Nat) (r : Rs), ε[i]? = some (some r) → ∃ v, σ[i]? = some (some v) ∧ RsOk K L H v r
  led : LOk K L H
end
/-- from the one state to the other: what isn't owned stands; what is owned anew was not there -/
structure Grow (H : Hp) (L : Led) (H' : Hp) (L' : Led) : Prop where
  old : ∀ a o, H a = some o → a ∉ L.ks → H' a = some o
  new : ∀ a ∈ L'.ks, a ∈ L.ks ∨ H a = none
abbrev Keeps (L L' : Led) : Prop := ∀ a ∈ L.ks, a ∈ L'.ks
theorem Grow.refl (H : Hp) (L : Led) : Grow H L H L := ⟨fun _ _ h _ => h, fun _ h => .inl h⟩
theorem Grow.trans {H H1 H2 : Hp} {L L1 L2 : Led} (a : Grow H L H1 L1) (b : Grow H1 L1 H2 L2) : Grow H L H2 L2 := by
  refine ⟨fun x o h hx => ?_, fun x hx => ?_⟩
  · refine b.old x o (a.old x o h hx) fun hm => ?_
    rcases a.new x hm with q | q
    · exact hx q
    · rw [h] at q
      cases q
  · rcases b.new x hx with q | q
    · exact a.new x q
    · cases e : H x with
      | none => exact .inr rfl
      | some o =>
        by_cases hx : x ∈ L.ks
        · exact .inl hx
        · rw [a.old x o e hx] at q
          cases q
theorem Grow.ext {H H1 : Hp} {L L1 : Led} (a : Grow H L H1 L1) : Ext (hid L H) (hid L1 H1) := fun x o h => by
  have h1 := hid_sub x o h
  have hx : x ∉ L.ks := fun z => by
    rw [hid_in z] at h
    cases h
  have hn : x ∉ L1.ks := fun z => by
    rcases a.new x z with q | q
    · exact hx q
    · rw [h1] at q
      cases q
  rw [hid_out hn]
  exact a.old x o h1 hx
section
variable {K : PySem.W.Frag} {L L' : Led} {H H' : Hp} {v : V} {r : Rs} {ε : Ev} {σ : L2.St}
theorem RsOk.grow (h : RsOk K L H v r) (g : Grow H L H' L') (k : Keeps L L') : RsOk K L' H' v r := by
  cases r with
  | dat d => exact rp_mono g.ext h
  | own a => exact ⟨h.1, k a h.2⟩
  | raw w => exact h
  | scr ns => exact let ⟨a, e, q⟩ := h; ⟨a, e, ext_l g.ext q⟩
theorem Rel.grow (h : Rel K L ε σ H) (g : Grow H L H' L') (k : Keeps L L') (l : LOk K L' H') : Rel K L' ε σ H' :=
  ⟨h.len, fun i r e => let ⟨v, a, b⟩ := h.slot i r e; ⟨v, a, b.grow g k⟩, l⟩
theorem LOk.isLst (h : LOk K L H) {a : Addr} {ds : List PyData} (m : (a, Mo.lst ds) ∈ L) : ∃ xs, H a = some (.lst xs) ∧ RpAll K (hid L H) xs ds := h.at_ _ m
theorem LOk.isDrw (h : LOk K L H) {a : Addr} (m : (a, Mo.drw) ∈ L) : ∃ ns : List Nat, H a = some (.lst (ns.map natV)) := h.at_ _ m
theorem Led.key {a : Addr} {m : Mo} (h : (a, m) ∈ L) : a ∈ L.ks := List.mem_map.mpr ⟨_, h, rfl⟩
/-- a new object that is not owned -/
theorem grow_new {p : Addr} {o : HO} (h : H p = none) : Grow H L (upd H p o) L :=
  ⟨fun a u e _ => by rw [upd_ne (ne_of_none e h)]; exact e, fun _ h => .inl h⟩
theorem hid_ext_new {p : Addr} {o : HO} (h : H p = none) : Ext (hid L H) (hid L (upd H p o)) := (grow_new h).ext
theorem LOk.mono_at (h : LOk K L H) (g : ∀ a ∈ L.ks, H' a = H a) (e : Ext (hid L H) (hid L H')) : LOk K L H' := by
  refine ⟨h.nd, fun p hp => ?_⟩
  have q := h.at_ p hp
  have ea := g p.1 (List.mem_map.mpr ⟨p, hp, rfl⟩)
  obtain ⟨a, m⟩ := p
  cases m with
  | drw =>
    obtain ⟨ns, z⟩ := q
    exact ⟨ns, ea.trans z⟩
  | lst ds =>
    obtain ⟨xs, z, y⟩ := q
    exact ⟨xs, ea.trans z, rpAll_mono e y⟩
  | dct ds =>
    obtain ⟨xs, z, y⟩ := q
    exact ⟨xs, ea.trans z, rpKv_mono e y⟩
theorem LOk.here (h : LOk K L H) {a : Addr} (ha : a ∈ L.ks) : ∃ o, H a = some o := by
  obtain ⟨p, hp, rfl⟩ := List.mem_map.mp ha
  have q := h.at_ p hp
  obtain ⟨a, m⟩ := p
  cases m with
  | drw => exact let ⟨ns, z⟩ := q; ⟨_, z⟩
  | lst ds => exact let ⟨xs, z, _⟩ := q; ⟨_, z⟩
  | dct ds => exact let ⟨xs, z, _⟩ := q; ⟨_, z⟩
theorem LOk.fresh (h : LOk K L H) {p : Addr} (e : H p = none) : p ∉ L.ks := fun z => by
  obtain ⟨o, q⟩ := h.here z
  rw [e] at q
  cases q
theorem LOk.new {p : Addr} {o : HO} (h : LOk K L H) (e : H p = none) : LOk K L (upd H p o) :=
  h.mono_at (fun a ha => upd_ne (fun z => h.fresh e (z ▸ ha))) (hid_ext_new e)
/-- a new object that is owned from now on -/
theorem grow_own {p : Addr} {o : HO} {m : Mo} (h : H p = none) : Grow H L (upd H p o) (L ++ [(p, m)]) :=
  ⟨fun a u e _ => by rw [upd_ne (ne_of_none e h)]; exact e, fun a ha => by
    rw [Led.ks, List.map_append, List.mem_append] at ha
    rcases ha with ha | ha
    · exact .inl ha
    · exact .inr (by rw [List.mem_singleton.mp ha]; exact h)⟩
theorem keeps_own {p : Addr} {m : Mo} : Keeps L (L ++ [(p, m)]) := fun a ha => by
  rw [Led.ks, List.map_append, List.mem_append]
  exact .inl ha
theorem Keeps.refl (L : Led) : Keeps L L := fun _ h => h
theorem Keeps.trans {L1 L2 : Led} (a : Keeps L L1) (b : Keeps L1 L2) : Keeps L L2 := fun x h => b x (a x h)
theorem LOk.own {p : Addr} {xs : List V} {ds : List PyData} (h : LOk K L H) (e : H p = none) (d : RpAll K (hid L H) xs ds) : LOk K (L ++ [(p, .lst ds)]) (upd H p (.lst xs)) := by
  have hp := h.fresh e
  have ex : Ext (hid L H) (hid (L ++ [(p, Mo.lst ds)]) (upd H p (.lst xs))) := (grow_own e).ext
  refine ⟨?_, fun q hq => ?_⟩
  · rw [Led.ks, List.map_append]
    refine List.nodup_append.mpr ⟨h.nd, by simp, fun a ha b hb => ?_⟩
    have eb : b = p := List.mem_singleton.mp hb
    rw [eb]
    exact fun z => hp (z ▸ ha)
  · rcases List.mem_append.mp hq with hq | hq
    · have z := h.at_ q hq
      have en : q.1 ≠ p := fun z => hp (z ▸ List.mem_map.mpr ⟨q, hq, rfl⟩)
      obtain ⟨a, m⟩ := q
      cases m with
      | drw =>
        obtain ⟨ns, z⟩ := z
        exact ⟨ns, by rw [upd_ne en]; exact z⟩
      | lst es =>
        obtain ⟨ys, z, y⟩ := z
        exact ⟨ys, by rw [upd_ne en]; exact z, rpAll_mono ex y⟩
      | dct es =>
        obtain ⟨ys, z, y⟩ := z
        exact ⟨ys, by rw [upd_ne en]; exact z, rpKv_mono ex y⟩
    · have e := List.mem_singleton.mp hq
      subst e
      exact ⟨xs, upd_same, rpAll_mono ex d⟩
end
end Z

set_option Elab.async false
set_option linter.all false
set_option maxRecDepth 100000
set_option maxHeartbeats 2000000
namespace Z
open PySem PySem.Spec PyProof.Rows L2
/-- what is wanted of an error: its class's address, the names, the ledger -/
abbrev KX := Addr → Ev → Led → Prop
structure Cz where
  K : PySem.W.Frag
  W : WX
  kx : KX
def ExOk (C : Cz) (L : Led) (H : Hp) : Prop := ∀ c ε' σ' L' H', Grow H L H' L' → Rel C.K L' ε' σ' H' → C.kx c ε' L' → C.W (.ref c) none σ' H'
theorem ExOk.grow {C : Cz} {L L' : Led} {H H' : Hp} (h : ExOk C L H) (g : Grow H L H' L') : ExOk C L' H' := fun c ε σ L2 H2 g2 r k => h c ε σ L2 H2 (g.trans g2) r k
abbrev RsAll (K : PySem.W.Frag) (L : Led) (H : Hp) : List V → List Rs → Prop := Paired fun v r => RsOk K L H v r
theorem RsAll.grow {K : PySem.W.Frag} {L L' : Led} {H H' : Hp} {vs : List V} {rs : List Rs} (h : RsAll K L H vs rs) (g : Grow H L H' L') (k : Keeps L L') : RsAll K L' H' vs rs := Paired.mapP h fun _ _ q => q.grow g k

/-! ### the judgements -/
/-- an expression: k holds of its value and the ledger -/
def CP (C : Cz) (te : TE) (ε : Ev) (L : Led) (k : Rs → Led → Prop) : Prop :=
  ∀ (σ : L2.St) (H : Hp) (Q : VK), Rel C.K L ε σ H → ExOk C L H → (∀ v r L' H', Grow H L H' L' → Keeps L L' → Rel C.K L' ε σ H' → RsOk C.K L' H' v r → k r L' → Q v H') → te σ H Q
def CT (C : Cz) (tt : TT) (ε : Ev) (L : Led) (k : Bool → Led → Prop) : Prop :=
  ∀ (σ : L2.St) (H : Hp) (Q : Bool → Hp → Prop), Rel C.K L ε σ H → ExOk C L H → (∀ b L' H', Grow H L H' L' → Keeps L L' → Rel C.K L' ε σ H' → k b L' → Q b H') → tt σ H Q
def CA (C : Cz) (ta : TA) (ε : Ev) (L : Led) (k : List Rs → Led → Prop) : Prop :=
  ∀ (σ : L2.St) (H : Hp) (Q : List V → Hp → Prop), Rel C.K L ε σ H → ExOk C L H → (∀ vs rs L' H', Grow H L H' L' → Keeps L L' → Rel C.K L' ε σ H' → RsAll C.K L' H' vs rs → k rs L' → Q vs H') → ta σ H Q
/-- by values: an operator, a call -/
def OD (C : Cz) (r : R2) (x y : Rs) (L : Led) (k : Rs → Led → Prop) : Prop :=
  ∀ (v w : V) (H : Hp) (Q : VK), LOk C.K L H → RsOk C.K L H v x → RsOk C.K L H w y → (∀ z s L' H', Grow H L H' L' → Keeps L L' → LOk C.K L' H' → RsOk C.K L' H' z s → k s L' → Q z H') → r v w H Q
def CD (C : Cz) (r : List V → Hp → VK → Prop) (xs : List Rs) (L : Led) (k : Rs → Led → Prop) : Prop :=
  ∀ (vs : List V) (H : Hp) (Q : VK), LOk C.K L H → RsAll C.K L H vs xs → (∀ z s L' H', Grow H L H' L' → Keeps L L' → LOk C.K L' H' → RsOk C.K L' H' z s → k s L' → Q z H') → r vs H Q
structure Post where
  nx : Ev → Led → Prop
  rt : Rs → Led → Prop
  bk : Ev → Led → Prop := fun _ _ => False
  ct : Ev → Led → Prop := fun _ _ => False
def StOk (K : PySem.W.Frag) (L : Led) (H : Hp) (q : Ev → Led → Prop) (D : L2.St → Hp → Prop) : Prop := ∀ ε' L' σ' H', Grow H L H' L' → Rel K L' ε' σ' H' → q ε' L' → D σ' H'
def RtOk (K : PySem.W.Frag) (L : Led) (H : Hp) (q : Rs → Led → Prop) (D : VK) : Prop := ∀ v r L' H', Grow H L H' L' → LOk K L' H' → RsOk K L' H' v r → q r L' → D v H'
theorem StOk.grow {K : PySem.W.Frag} {L L' : Led} {H H' : Hp} {q : Ev → Led → Prop} {D : L2.St → Hp → Prop} (h : StOk K L H q D) (g : Grow H L H' L') : StOk K L' H' q D := fun e l σ h2 g2 => h e l σ h2 (g.trans g2)
theorem RtOk.grow {K : PySem.W.Frag} {L L' : Led} {H H' : Hp} {q : Rs → Led → Prop} {D : VK} (h : RtOk K L H q D) (g : Grow H L H' L') : RtOk K L' H' q D := fun v r l h2 g2 => h v r l h2 (g.trans g2)
structure EndsOk (K : PySem.W.Frag) (L : Led) (H : Hp) (P : Post) (D : Ends) : Prop where
  nx : StOk K L H P.nx D.nx
  rt : RtOk K L H P.rt D.rt
  bk : StOk K L H P.bk D.bk
  ct : StOk K L H P.ct D.ct
theorem EndsOk.grow {K : PySem.W.Frag} {L L' : Led} {H H' : Hp} {P : Post} {D : Ends} (h : EndsOk K L H P D) (g : Grow H L H' L') : EndsOk K L' H' P D := ⟨h.nx.grow g, h.rt.grow g, h.bk.grow g, h.ct.grow g⟩
def HS (C : Cz) (t : TS) (ε : Ev) (L : Led) (P : Post) : Prop :=
  ∀ (σ : L2.St) (H : Hp) (D : Ends), Rel C.K L ε σ H → ExOk C L H → EndsOk C.K L H P D → t D σ H

section
variable {C : Cz} {ε : Ev} {L : Led} {k : Rs → Led → Prop} {kb : Bool → Led → Prop} {ta tb te tl : TE} {tt tu : TT}
/-! ### expressions -/
theorem cp_var {i : Nat} {r : Rs} (h : ε[i]? = some (some r)) (q : k r L) : CP C (tVar i) ε L k := fun σ H Q R X z => by
  obtain ⟨v, e, o⟩ := R.slot i r h
  exact ⟨v, e, z v r L H (Grow.refl H L) (Keeps.refl L) R o q⟩
theorem cp_of {v : V} {r : Rs} (h : ∀ H, RsOk C.K L H v r) (q : k r L) : CP C (tC v) ε L k := fun σ H Q R X z =>
  z v r L H (Grow.refl H L) (Keeps.refl L) R (h H) q
theorem cp_int {i : Int} (q : k (.dat (.int i)) L) : CP C (tC (.int i)) ε L k := cp_of (r := .dat (.int i)) (fun _ => Rp.int i) q
theorem cp_bl {b : Bool} (q : k (.dat (.bool b)) L) : CP C (tC (.bl b)) ε L k := cp_of (r := .dat (.bool b)) (fun _ => Rp.bl b) q
theorem cp_str {x : Str} (q : k (.dat (.str x)) L) : CP C (tC (.str x)) ε L k := cp_of (r := .dat (.str x)) (fun _ => Rp.str x) q
theorem cp_non (q : k (.dat .none) L) : CP C (tC .non) ε L k := cp_of (r := .dat .none) (fun _ => Rp.non) q
theorem cp_ref {a : Addr} (q : k (.raw (.ref a)) L) : CP C (tC (.ref a)) ε L k := cp_of (r := .raw (.ref a)) (fun _ => rfl) q
theorem cp_ty {n : String} (q : k (.raw (.ty n)) L) : CP C (tC (.ty n)) ε L k := cp_of (r := .raw (.ty n)) (fun _ => rfl) q
theorem CP.mono {k' : Rs → Led → Prop} (h : CP C te ε L k) (f : ∀ r L, k r L → k' r L) : CP C te ε L k' := fun σ H Q R X z => h σ H Q R X fun v r L' H' g kp R' o q => z v r L' H' g kp R' o (f r L' q)
theorem CT.mono {k' : Bool → Led → Prop} (h : CT C tt ε L kb) (f : ∀ r L, kb r L → k' r L) : CT C tt ε L k' := fun σ H Q R X z => h σ H Q R X fun b L' H' g kp R' q => z b L' H' g kp R' (f b L' q)
theorem HS.mono {t : TS} {P P' : Post} (h : HS C t ε L P) (f1 : ∀ e l, P.nx e l → P'.nx e l) (f2 : ∀ r l, P.rt r l → P'.rt r l) (f3 : ∀ e l, P.bk e l → P'.bk e l) (f4 : ∀ e l, P.ct e l → P'.ct e l) : HS C t ε L P' := fun σ H D R X E =>
  h σ H D R X ⟨fun e l s h2 g r q => E.nx e l s h2 g r (f1 _ _ q), fun v r l h2 g lo o q => E.rt v r l h2 g lo o (f2 _ _ q), fun e l s h2 g r q => E.bk e l s h2 g r (f3 _ _ q), fun e l s h2 g r q => E.ct e l s h2 g r (f4 _ _ q)⟩
theorem cp_op {r : R2} (h : CP C ta ε L fun x L1 => CP C tb ε L1 fun y L2 => OD C r x y L2 k) : CP C (tOp r ta tb) ε L k := fun σ H Q R X z =>
  h σ H _ R X fun v x L1 H1 g1 k1 R1 o1 h1 => h1 σ H1 _ R1 (X.grow g1) fun w y L2 H2 g2 k2 R2 o2 h2 =>
    h2 v w H2 Q R2.led (o1.grow g2 k2) o2 fun u s L3 H3 g3 k3 l3 o3 q => z u s L3 H3 ((g1.trans g2).trans g3) ((k1.trans k2).trans k3) (R2.grow g3 k3 l3) o3 q
theorem cp_un {r : V → Hp → VK → Prop} (h : CP C ta ε L fun x L1 => CD C (fun vs H Q => ∃ v, vs = [v] ∧ r v H Q) [x] L1 k) : CP C (tUn r ta) ε L k := fun σ H Q R X z =>
  h σ H _ R X fun v x L1 H1 g1 k1 R1 o1 h1 => by
    obtain ⟨v', e, q⟩ := h1 [v] H1 Q R1.led (.cons o1 .nil) fun u s L3 H3 g3 k3 l3 o3 q => z u s L3 H3 (g1.trans g3) (k1.trans k3) (R1.grow g3 k3 l3) o3 q
    cases e
    exact q
theorem ca_nil {k : List Rs → Led → Prop} (q : k [] L) : CA C tNil ε L k := fun σ H Q R X z => z [] [] L H (Grow.refl H L) (Keeps.refl L) R .nil q
theorem ca_cons {tr : TA} {k : List Rs → Led → Prop} (h : CP C ta ε L fun x L1 => CA C tr ε L1 fun xs L2 => k (x :: xs) L2) : CA C (tCons ta tr) ε L k := fun σ H Q R X z =>
  h σ H _ R X fun v x L1 H1 g1 k1 R1 o1 h1 => h1 σ H1 _ R1 (X.grow g1) fun vs xs L2 H2 g2 k2 R2 o2 q => z (v :: vs) (x :: xs) L2 H2 (g1.trans g2) (k1.trans k2) R2 (.cons (o1.grow g2 k2) o2) q
/-- a built-in's call -/
theorem cp_cb {ta : TA} {r : List V → Hp → VK → Prop} (h : CA C ta ε L fun xs L1 => CD C r xs L1 k) : CP C (tCB r ta) ε L k := fun σ H Q R X z =>
  h σ H _ R X fun vs xs L1 H1 g1 k1 R1 o1 h1 => h1 vs H1 Q R1.led o1 fun u s L3 H3 g3 k3 l3 o3 q => z u s L3 H3 (g1.trans g3) (k1.trans k3) (R1.grow g3 k3 l3) o3 q
/-! ### tests -/
theorem ct_test (h : CP C te ε L fun x L1 => ∃ b, x = .dat (.bool b) ∧ kb b L1) : CT C (tTest te) ε L kb := fun σ H Q R X z =>
  h σ H _ R X fun v x L1 H1 g1 k1 R1 o1 ⟨b, e, q⟩ => by
    subst e
    cases o1
    exact ⟨b, rfl, z b L1 H1 g1 k1 R1 q⟩
theorem ct_b (h : CP C te ε L fun x L1 => ∃ b, x = .dat (.bool b) ∧ kb b L1) : CT C (tB te) ε L kb := fun σ H Q R X z =>
  h σ H _ R X fun v x L1 H1 g1 k1 R1 o1 ⟨b, e, q⟩ => by
    subst e
    cases o1
    exact ⟨b, rfl, z b L1 H1 g1 k1 R1 q⟩
theorem ct_and (h : CT C tt ε L fun b L1 => if b = true then CT C tu ε L1 kb else kb false L1) : CT C (tAnd tt tu) ε L kb := fun σ H Q R X z =>
  h σ H _ R X fun b L1 H1 g1 k1 R1 q => by
    cases b with
    | true =>
      rw [if_pos rfl] at q ⊢
      exact q σ H1 Q R1 (X.grow g1) fun c L2 H2 g2 k2 R2 q => z c L2 H2 (g1.trans g2) (k1.trans k2) R2 q
    | false =>
      rw [if_neg (by decide)] at q ⊢
      exact z false L1 H1 g1 k1 R1 q
theorem ct_or (h : CT C tt ε L fun b L1 => if b = true then kb true L1 else CT C tu ε L1 kb) : CT C (tOr tt tu) ε L kb := fun σ H Q R X z =>
  h σ H _ R X fun b L1 H1 g1 k1 R1 q => by
    cases b with
    | true =>
      rw [if_pos rfl] at q ⊢
      exact z true L1 H1 g1 k1 R1 q
    | false =>
      rw [if_neg (by decide)] at q ⊢
      exact q σ H1 Q R1 (X.grow g1) fun c L2 H2 g2 k2 R2 q => z c L2 H2 (g1.trans g2) (k1.trans k2) R2 q
theorem ct_not (h : CT C tt ε L fun b L1 => kb (!b) L1) : CT C (tNot tt) ε L kb := fun σ H Q R X z =>
  h σ H _ R X fun b L1 H1 g1 k1 R1 q => z (!b) L1 H1 g1 k1 R1 q
/-! values that are tests -/
theorem cp_andV (h : CP C ta ε L fun x L1 => ∃ b, x = .dat (.bool b) ∧ if b = true then CP C tb ε L1 k else k (.dat (.bool false)) L1) : CP C (tAndV ta tb) ε L k := fun σ H Q R X z =>
  h σ H _ R X fun v x L1 H1 g1 k1 R1 o1 ⟨b, e, q⟩ => by
    subst e
    cases o1
    refine ⟨b, rfl, ?_⟩
    cases b with
    | true =>
      rw [if_pos rfl] at q ⊢
      exact q σ H1 Q R1 (X.grow g1) fun c s L2 H2 g2 k2 R2 o2 q => z c s L2 H2 (g1.trans g2) (k1.trans k2) R2 o2 q
    | false =>
      rw [if_neg (by decide)] at q ⊢
      exact z _ (.dat (.bool false)) L1 H1 g1 k1 R1 (.bl false) q
theorem cp_orV (h : CP C ta ε L fun x L1 => ∃ b, x = .dat (.bool b) ∧ if b = true then k (.dat (.bool true)) L1 else CP C tb ε L1 k) : CP C (tOrV ta tb) ε L k := fun σ H Q R X z =>
  h σ H _ R X fun v x L1 H1 g1 k1 R1 o1 ⟨b, e, q⟩ => by
    subst e
    cases o1
    refine ⟨b, rfl, ?_⟩
    cases b with
    | true =>
      rw [if_pos rfl] at q ⊢
      exact z _ (.dat (.bool true)) L1 H1 g1 k1 R1 (.bl true) q
    | false =>
      rw [if_neg (by decide)] at q ⊢
      exact q σ H1 Q R1 (X.grow g1) fun c s L2 H2 g2 k2 R2 o2 q => z c s L2 H2 (g1.trans g2) (k1.trans k2) R2 o2 q
theorem cp_notV (h : CP C ta ε L fun x L1 => ∃ b, x = .dat (.bool b) ∧ k (.dat (.bool (!b))) L1) : CP C (tNotV ta) ε L k := fun σ H Q R X z =>
  h σ H _ R X fun v x L1 H1 g1 k1 R1 o1 ⟨b, e, q⟩ => by
    subst e
    cases o1
    exact ⟨b, rfl, z _ (.dat (.bool (!b))) L1 H1 g1 k1 R1 (.bl _) q⟩
theorem cp_if (h : CT C tt ε L fun b L1 => if b = true then CP C ta ε L1 k else CP C tb ε L1 k) : CP C (tIf tt ta tb) ε L k := fun σ H Q R X z =>
  h σ H _ R X fun b L1 H1 g1 k1 R1 q => by
    cases b with
    | true =>
      rw [if_pos rfl] at q ⊢
      exact q σ H1 Q R1 (X.grow g1) fun c s L2 H2 g2 k2 R2 o2 q => z c s L2 H2 (g1.trans g2) (k1.trans k2) R2 o2 q
    | false =>
      rw [if_neg (by decide)] at q ⊢
      exact q σ H1 Q R1 (X.grow g1) fun c s L2 H2 g2 k2 R2 o2 q => z c s L2 H2 (g1.trans g2) (k1.trans k2) R2 o2 q
/-! ### new lists, new tuples -/
theorem rsAll_dats {K : PySem.W.Frag} {H : Hp} : ∀ {vs : List V} {ds : List PyData}, RsAll K L H vs (ds.map Rs.dat) → RpAll K (hid L H) vs ds
  | _, [], .nil => .nil
  | _, d :: r, .cons h t => .cons h (rsAll_dats t)
theorem cp_lst {ta : TA} (h : CA C ta ε L fun xs L1 => ∃ ds : List PyData, xs = ds.map Rs.dat ∧ ds.length ≤ sizeLine ∧ k (.dat (.list ds)) L1) : CP C (tLst ta) ε L k := fun σ H Q R X z =>
  h σ H _ R X fun vs xs L1 H1 g1 k1 R1 o1 ⟨ds, e, hl, q⟩ => by
    subst e
    have o2 := rsAll_dats o1
    refine ⟨by rw [rpAll_len o2]; exact hl, fun p hp => ?_⟩
    have g2 : Grow H1 L1 (upd H1 p (.lst vs)) L1 := grow_new hp
    have hn : p ∉ L1.ks := R1.led.fresh hp
    exact z _ (.dat (.list ds)) L1 _ (g1.trans g2) k1 (R1.grow g2 (Keeps.refl _) (R1.led.new hp)) (.lst (by rw [hid_out hn]; exact upd_same) (rpAll_mono g2.ext o2)) q
theorem cp_lstO {ta : TA} (h : CA C ta ε L fun xs L1 => ∃ ds : List PyData, xs = ds.map Rs.dat ∧ ds.length ≤ sizeLine ∧ ∀ p, p ∉ L1.ks → k (.own p) (L1 ++ [(p, .lst ds)])) : CP C (tLst ta) ε L k := fun σ H Q R X z =>
  h σ H _ R X fun vs xs L1 H1 g1 k1 R1 o1 ⟨ds, e, hl, q⟩ => by
    subst e
    have o2 := rsAll_dats o1
    refine ⟨by rw [rpAll_len o2]; exact hl, fun p hp => ?_⟩
    have g2 : Grow H1 L1 (upd H1 p (.lst vs)) (L1 ++ [(p, .lst ds)]) := grow_own hp
    exact z _ (.own p) _ _ (g1.trans g2) (k1.trans keeps_own) (R1.grow g2 keeps_own (R1.led.own hp o2)) ⟨rfl, by rw [Led.ks, List.map_append]; exact List.mem_append_right _ List.mem_cons_self⟩ (q p (R1.led.fresh hp))
theorem cp_tup {ta : TA} (h : CA C ta ε L fun xs L1 => ∃ ds : List PyData, xs = ds.map Rs.dat ∧ ds.length ≤ sizeLine ∧ k (.dat (.tuple ds)) L1) : CP C (tTup ta) ε L k := fun σ H Q R X z =>
  h σ H _ R X fun vs xs L1 H1 g1 k1 R1 o1 ⟨ds, e, hl, q⟩ => by
    subst e
    have o2 := rsAll_dats o1
    refine ⟨by rw [rpAll_len o2]; exact hl, fun p hp => ?_⟩
    have g2 : Grow H1 L1 (upd H1 p (.tup vs)) L1 := grow_new hp
    have hn : p ∉ L1.ks := R1.led.fresh hp
    exact z _ (.dat (.tuple ds)) L1 _ (g1.trans g2) k1 (R1.grow g2 (Keeps.refl _) (R1.led.new hp)) (.tup (SqT.of (by rw [hid_out hn]; exact upd_same)) (rpAll_mono g2.ext o2)) q

/-! ### statements -/
variable {P : Post} {t u : TS}
theorem hs_next (h : P.nx ε L) : HS C tNext ε L P := fun σ H D R X E => E.nx ε L σ H (Grow.refl H L) R h
theorem hs_brk (h : P.bk ε L) : HS C tBreak ε L P := fun σ H D R X E => E.bk ε L σ H (Grow.refl H L) R h
theorem hs_cont (h : P.ct ε L) : HS C tCont ε L P := fun σ H D R X E => E.ct ε L σ H (Grow.refl H L) R h
theorem hs_seq (h : HS C t ε L { P with nx := fun e l => HS C u e l P }) : HS C (tSeq t u) ε L P := fun σ H D R X E =>
  h σ H _ R X ⟨fun e l s h2 g r q => q s h2 D r (X.grow g) (E.grow g), E.rt, E.bk, E.ct⟩
theorem rel_set {K : PySem.W.Frag} {H : Hp} {σ : L2.St} {i : Nat} {v : V} {r : Rs} (R : Rel K L ε σ H) (o : RsOk K L H v r) : Rel K L (ε.set i (some r)) (σ.set i (some v)) H := by
  refine ⟨by rw [List.length_set, List.length_set]; exact R.len, fun j s e => ?_, R.led⟩
  by_cases h : i = j
  · subst h
    by_cases hl : i < ε.length
    · rw [List.getElem?_set_self hl] at e
      cases e
      exact ⟨v, by rw [List.getElem?_set_self (by rw [R.len]; exact hl)], o⟩
    · rw [List.getElem?_eq_none (by rw [List.length_set]; omega)] at e
      cases e
  · rw [List.getElem?_set_ne h] at e
    obtain ⟨w, e2, o2⟩ := R.slot j s e
    exact ⟨w, by rw [List.getElem?_set_ne h]; exact e2, o2⟩
theorem hs_asg {i : Nat} (h : CP C te ε L fun r L1 => P.nx (ε.set i (some r)) L1) : HS C (tAsg te (gName i)) ε L P := fun σ H D R X E =>
  h σ H _ R X fun v r L1 H1 g1 k1 R1 o1 q => E.nx _ L1 _ H1 g1 (rel_set R1 o1) q
theorem hs_drop (h : CP C te ε L fun r L1 => P.nx ε L1) : HS C (tDrop te) ε L P := fun σ H D R X E =>
  h σ H _ R X fun v r L1 H1 g1 k1 R1 o1 q => E.nx _ L1 _ H1 g1 R1 q
theorem hs_ret (h : CP C te ε L P.rt) : HS C (tRet te) ε L P := fun σ H D R X E =>
  h σ H _ R X fun v r L1 H1 g1 k1 R1 o1 q => E.rt v r L1 H1 g1 R1.led o1 q
theorem hs_retN (h : P.rt (.dat .none) L) : HS C tRetN ε L P := fun σ H D R X E => E.rt _ (.dat .none) L H (Grow.refl H L) R.led .non h
theorem hs_if (h : CT C tt ε L fun b L1 => if b = true then HS C t ε L1 P else HS C u ε L1 P) : HS C (tIfS tt t u) ε L P := fun σ H D R X E =>
  h σ H _ R X fun b L1 H1 g1 k1 R1 q => by
    cases b with
    | true =>
      rw [if_pos rfl] at q ⊢
      exact q σ H1 D R1 (X.grow g1) (E.grow g1)
    | false =>
      rw [if_neg (by decide)] at q ⊢
      exact q σ H1 D R1 (X.grow g1) (E.grow g1)
theorem hs_aug {i : Nat} {ti : TIp} {x : Rs} (hx : ε[i]? = some (some x)) (h : CP C te ε L fun y L1 => OD C ti x y L1 fun z L2 => P.nx (ε.set i (some z)) L2) : HS C (tAug i te ti) ε L P := fun σ H D R X E => by
  obtain ⟨v, e, o⟩ := R.slot i x hx
  refine ⟨v, e, h σ H _ R X fun w y L1 H1 g1 k1 R1 o1 q => ?_⟩
  exact q v w H1 _ R1.led (o.grow g1 k1) o1 fun u s L3 H3 g3 k3 l3 o3 q => E.nx _ L3 _ H3 (g1.trans g3) (rel_set (R1.grow g3 k3 l3) o3) q
end
end Z

set_option Elab.async false
set_option linter.all false
set_option maxRecDepth 100000
set_option maxHeartbeats 2000000
namespace Z
open PySem PySem.Spec PyProof.Rows L2
/-! ### a def's promise over data -/
abbrev DSp := List Rs → Led → (Rs → Led → Prop) → (Addr → Led → Prop) → Prop
def lift (K : PySem.W.Frag) (d : DSp) : Sp := fun vs H Q E => ∃ rs L k x, RsAll K L H vs rs ∧ LOk K L H ∧ d rs L k x ∧
  (∀ v r L' H', Grow H L H' L' → Keeps L L' → LOk K L' H' → RsOk K L' H' v r → k r L' → Q v H') ∧ (∀ c L' H', Grow H L H' L' → Keeps L L' → LOk K L' H' → x c L' → E (.ref c) none H')
section
variable {C : Cz} {ε : Ev} {L : Led} {k : Rs → Led → Prop} {ta : TA} {d : DSp}
theorem cp_call (h : CA C ta ε L fun rs L1 => d rs L1 k fun _ _ => False) : CP C (tCall (lift C.K d) [] E0 ta) ε L k := fun σ H Q R X z =>
  h σ H _ R X fun vs rs L1 H1 g1 k1 R1 o1 q => by
    rw [List.append_nil]
    exact ⟨rs, L1, k, _, o1, R1.led, q, fun v r L2 H2 g2 k2 l2 o2 q2 => z v r L2 H2 (g1.trans g2) (k1.trans k2) (R1.grow g2 k2 l2) o2 q2, fun _ _ _ _ _ _ f => f.elim⟩
theorem cp_callS (h : CA C ta ε L fun rs L1 => d rs L1 k fun c L2 => C.kx c ε L2) : CP C (tCallS (lift C.K d) (WE C.W) ta) ε L k := fun σ H Q R X z =>
  h σ H _ R X fun vs rs L1 H1 g1 k1 R1 o1 q =>
    ⟨rs, L1, k, _, o1, R1.led, q, fun v r L2 H2 g2 k2 l2 o2 q2 => z v r L2 H2 (g1.trans g2) (k1.trans k2) (R1.grow g2 k2 l2) o2 q2, fun c L2 H2 g2 k2 l2 f => X c ε σ L2 H2 (g1.trans g2) (R1.grow g2 k2 l2) f⟩
end
/-! ### a def by its body -/
abbrev C0 (K : PySem.W.Frag) : Cz := ⟨K, fun _ _ _ _ => False, fun _ _ _ => False⟩
theorem exOk0 {K : PySem.W.Frag} {L : Led} {H : Hp} : ExOk (C0 K) L H := fun _ _ _ _ _ _ _ f => f.elim
def ev0 (n : Nat) (rs : List Rs) : Ev := rs.map some ++ List.replicate (n - rs.length) none
theorem rel_start {K : PySem.W.Frag} {L : Led} {H : Hp} {N : List Str} {vs : List V} {rs : List Rs} (h : RsAll K L H vs rs) (l : LOk K L H) : Rel K L (ev0 N.length rs) (L2.start N vs) H := by
  have e := Paired.length h
  refine ⟨?_, fun i r hr => ?_, l⟩
  · unfold L2.start ev0
    rw [List.length_append, List.length_append, List.length_map, List.length_map, List.length_replicate, List.length_replicate, e]
  · unfold ev0 at hr
    by_cases hi : i < rs.length
    · rw [List.getElem?_append_left (by simpa using hi), List.getElem?_map] at hr
      cases e2 : rs[i]? with
      | none =>
        rw [e2] at hr
        cases hr
      | some r' =>
        rw [e2] at hr
        cases hr
        have hv : i < vs.length := by omega
        have key : ∀ {vs : List V} {rs : List Rs} {i : Nat} {r : Rs}, RsAll K L H vs rs → rs[i]? = some r → ∃ v, vs[i]? = some v ∧ RsOk K L H v r := by
          intro vs rs i r p
          induction p generalizing i with
          | nil => intro q; simp at q
          | cons a b ih =>
            intro q
            cases i with
            | zero => simp at q; subst q; exact ⟨_, rfl, a⟩
            | succ j =>
              obtain ⟨v, q1, q2⟩ := ih (i := j) (by simpa using q)
              exact ⟨v, by simpa using q1, q2⟩
        obtain ⟨v, e3, o⟩ := key h e2
        refine ⟨v, ?_, o⟩
        unfold L2.start
        rw [List.getElem?_append_left (by simpa using hv), List.getElem?_map, e3]
        rfl
    · rw [List.getElem?_append_right (by simpa using hi), List.getElem?_replicate] at hr
      split at hr <;> cases hr
/-! ### iterators -/
/-- J hands out the data ds, one by one, from H on -/
def ItOk (K : PySem.W.Frag) (L : Led) (H : Hp) (J : It) (ds : List PyData) : Prop := ∀ L' H', Grow H L H' L' → LOk K L' H' → ∀ i, (i = ds.length → J.stop i H') ∧
  ∀ d, ds[i]? = some d → J.go i H' ∧ ∀ v H2, J.yld i H' v H2 → Grow H' L' H2 L' ∧ LOk K L' H2 ∧ Rp K (hid L' H2) v d
def CI (C : Cz) (wi : TI) (ε : Ev) (L : Led) (q : List PyData → Led → Prop) : Prop := ∀ (σ : L2.St) (H : Hp) (R : It → Hp → Prop), Rel C.K L ε σ H → ExOk C L H →
  (∀ J ds L' H', Grow H L H' L' → Keeps L L' → Rel C.K L' ε σ H' → ItOk C.K L' H' J ds → q ds L' → R J H') → wi σ H R
/-- a target -/
def CG (C : Cz) (g : TG) (r : Rs) (ε : Ev) (L : Led) (q : Ev → Led → Prop) : Prop := ∀ (v : V) (σ : L2.St) (H : Hp) (Q : L2.St → Hp → Prop), Rel C.K L ε σ H → RsOk C.K L H v r →
  (∀ ε' L' σ' H', Grow H L H' L' → Keeps L L' → Rel C.K L' ε' σ' H' → q ε' L' → Q σ' H') → g v σ H Q
section
variable {C : Cz} {ε : Ev} {L : Led} {P : Post} {k : Rs → Led → Prop} {q : Ev → Led → Prop} {wi wi1 : TI} {g g1 : TG} {tb : TS} {tt tt1 : TT} {te : TE}
theorem cg_name {i : Nat} {r : Rs} (h : q (ε.set i (some r)) L) : CG C (gName i) r ε L q := fun v σ H Q R o z => z _ L _ H (Grow.refl H L) (Keeps.refl L) (rel_set R o) h
theorem cg_tup2 {K : PySem.W.Frag} {i j : Nat} {a b : PyData} (h : q ((ε.set i (some (.dat a))).set j (some (.dat b))) L) (hK : C.K = K := by rfl) : CG C (gTup K 2 (gCons (gName i) (gCons (gName j) gNil))) (.dat (.tuple [a, b])) ε L q := fun v σ H Q R o z => by
  subst hK
  cases o with
  | @tup p xs ds hs hx =>
    cases hx with
    | @cons v1 _ _ _ h1 ht =>
      cases ht with
      | @cons v2 _ _ _ h2 hn =>
        cases hn
        exact ⟨p, [v1, v2], rfl, ext_t hid_sub hs, rfl, v1, [v2], rfl, v2, [], rfl, rfl, z _ L _ H (Grow.refl H L) (Keeps.refl L) (rel_set (r := .dat b) (rel_set (r := .dat a) R h1) h2) h⟩
theorem cg_tup3 {K : PySem.W.Frag} {i j l : Nat} {a b c : PyData} (h : q (((ε.set i (some (.dat a))).set j (some (.dat b))).set l (some (.dat c))) L) (hK : C.K = K := by rfl) : CG C (gTup K 3 (gCons (gName i) (gCons (gName j) (gCons (gName l) gNil)))) (.dat (.tuple [a, b, c])) ε L q := fun v σ H Q R o z => by
  subst hK
  cases o with
  | @tup p xs ds hs hx =>
    cases hx with
    | @cons v1 _ _ _ h1 ht =>
      cases ht with
      | @cons v2 _ _ _ h2 ht =>
        cases ht with
        | @cons v3 _ _ _ h3 hn =>
          cases hn
          exact ⟨p, [v1, v2, v3], rfl, ext_t hid_sub hs, rfl, v1, [v2, v3], rfl, v2, [v3], rfl, v3, [], rfl, rfl, z _ L _ H (Grow.refl H L) (Keeps.refl L) (rel_set (r := .dat c) (rel_set (r := .dat b) (rel_set (r := .dat a) R h1) h2) h3) h⟩
theorem hs_for (h : CI C wi ε L fun ds L1 => ∃ I : Nat → Ev → Led → Prop, I 0 ε L1 ∧
      (∀ i d ε' L', ds[i]? = some d → I i ε' L' → CG C g (.dat d) ε' L' fun ε2 L2 => HS C tb ε2 L2 { P with nx := I (i + 1), ct := I (i + 1), bk := P.nx }) ∧ ∀ ε' L', I ds.length ε' L' → P.nx ε' L') : HS C (tFor wi g tb) ε L P := fun σ H D R X E =>
  h σ H _ R X fun J ds L1 H1 g1 k1 R1 J1 ⟨I, i0, hs, hd⟩ => by
    refine ⟨fun i m σ' H' => m = ds.length - i ∧ i ≤ ds.length ∧ ∃ ε' L', Grow H1 L1 H' L' ∧ Rel C.K L' ε' σ' H' ∧ I i ε' L', ⟨_, rfl, Nat.zero_le _, ε, L1, Grow.refl _ _, R1, i0⟩, ?_⟩
    rintro i m σ' H' ⟨rfl, hi, ε', L', g', R', hI⟩
    obtain ⟨js, jg⟩ := J1 L' H' g' R'.led i
    by_cases hl : i < ds.length
    · have hx : ds[i]? = some ds[i] := List.getElem?_eq_getElem hl
      obtain ⟨j1, j2⟩ := jg _ hx
      refine .inr ⟨j1, fun σ2 H2 => i + 1 ≤ ds.length ∧ ∃ ε2 L2, Grow H1 L1 H2 L2 ∧ Rel C.K L2 ε2 σ2 H2 ∧ I (i + 1) ε2 L2, fun σ2 H2 ⟨a, b⟩ => ⟨ds.length - (i + 1), by omega, rfl, a, b⟩, fun v H2 y => ?_⟩
      obtain ⟨g2, l2, rp⟩ := j2 v H2 y
      refine hs i _ ε' L' hx hI v σ' H2 _ (R'.grow g2 (Keeps.refl _) l2) rp fun ε3 L3 σ3 H3 g3 k3 R3 q3 => ?_
      have gg := g1.trans (g'.trans (g2.trans g3))
      refine q3 σ3 H3 _ R3 (X.grow gg) ⟨fun e l s h2 g r z => ⟨hl, e, l, g'.trans (g2.trans (g3.trans g)), r, z⟩, E.rt.grow gg, E.nx.grow gg, fun e l s h2 g r z => ⟨hl, e, l, g'.trans (g2.trans (g3.trans g)), r, z⟩⟩
    · have e : i = ds.length := by omega
      exact .inl ⟨js e, E.nx ε' L' σ' H' (g1.trans g') R' (hd ε' L' (e ▸ hI))⟩
theorem hs_while {tc : TT} (I : Ev → Led → Prop) (μ : Ev → Led → Nat) (h0 : I ε L) (hs : ∀ ε' L', I ε' L' → CT C tc ε' L' fun b L2 => if b = true then HS C tb ε' L2 { P with nx := fun e l => I e l ∧ μ e l < μ ε' L', ct := fun e l => I e l ∧ μ e l < μ ε' L', bk := P.nx } else P.nx ε' L2) : HS C (tWhile tc tb) ε L P := fun σ H D R X E => by
  refine ⟨fun m σ' H' => ∃ ε' L', m = μ ε' L' ∧ Grow H L H' L' ∧ Rel C.K L' ε' σ' H' ∧ I ε' L', ⟨_, ε, L, rfl, Grow.refl _ _, R, h0⟩, ?_⟩
  rintro m σ' H' ⟨ε', L', rfl, g', R', hI⟩
  refine hs ε' L' hI σ' H' _ R' (X.grow g') fun b L2 H2 g2 k2 R2 q => ?_
  cases b with
  | true =>
    rw [if_pos rfl] at q ⊢
    refine ⟨fun σ3 H3 => ∃ ε3 L3, μ ε3 L3 < μ ε' L' ∧ Grow H L H3 L3 ∧ Rel C.K L3 ε3 σ3 H3 ∧ I ε3 L3, fun σ3 H3 ⟨ε3, L3, a, b, c, d⟩ => ⟨_, a, ε3, L3, rfl, b, c, d⟩, ?_⟩
    have gg := g'.trans g2
    exact q σ' H2 _ R2 (X.grow gg) ⟨fun e l s h2 g r z => ⟨e, l, z.2, gg.trans g, r, z.1⟩, E.rt.grow gg, E.nx.grow gg, fun e l s h2 g r z => ⟨e, l, z.2, gg.trans g, r, z.1⟩⟩
  | false =>
    rw [if_neg (by decide)] at q ⊢
    exact E.nx ε' L2 σ' H2 (g'.trans g2) R2 q
end
end Z

set_option Elab.async false
set_option linter.all false
set_option maxRecDepth 100000
set_option maxHeartbeats 2000000
namespace Z
open PySem PySem.Spec PyProof.Rows L2
/-! ### sources -/
/-- a list, a tuple or a text -/
def iSq (K : PySem.W.Frag) (te : TE) : TI := fun σ H R => te σ H fun v H1 => (∃ a, v = .ref a ∧ (∃ xs, SqL K H1 a xs) ∧ R (Itl K a) H1) ∨ (∃ a, v = .ref a ∧ (∃ xs, SqT K H1 a xs) ∧ R (Itt K a) H1) ∨ ∃ x, v = .str x ∧ R (Its x) H1
theorem pi_sq {X : Cx} {tg e : Expr} {te : TE} (he : PE X e te) : PI X tg e (iSq X.K te) := by
  refine ⟨fun pins s σ H R I h => ?_⟩
  refine thn (he.run pins s σ H _ I h) fun v s1 ⟨x, H1, I1, r1, q⟩ => ?_
  rcases q with ⟨a, rfl, ⟨xs, hs⟩, q⟩ | ⟨a, rfl, ⟨xs, hs⟩, q⟩ | ⟨z, rfl, q⟩
  · obtain rfl : v = Value.ref a := r1
    obtain ⟨its, rv, pl, hz⟩ := I1.list hs
    refine wpAny_pyIter_list pl.isList ?_
    exact pi_one (tk := s1.toks) I1 _ (turn_list a _) ⟨_, Heap.get?_push_size _ rfl, rfl, rfl⟩ q
  · obtain rfl : v = Value.ref a := r1
    obtain ⟨its, rv, pl, hz⟩ := I1.tuple hs
    refine wpAny_pyIter_tuple (show s1.heap.IsTuple a its.toArray from pl) ?_
    exact pi_one (tk := s1.toks) I1 _ (turn_tuple a _) ⟨_, Heap.get?_push_size _ rfl, rfl, rfl⟩ q
  · obtain ⟨t, rfl⟩ := r1
    cases hz : z.cps.all (· < 128) with
    | false => exact wpAny_pyIter_wide hz (pi_one (tk := s1.toks) I1 _ (turn_str _ z t "str_iterator" (.inr rfl)) ⟨_, Heap.get?_push_size _ rfl, rfl, rfl⟩ q)
    | true => exact wpAny_pyIter_ascii hz (pi_one (tk := s1.toks) I1 _ (turn_str _ z t "str_ascii_iterator" (.inl rfl)) ⟨_, Heap.get?_push_size _ rfl, rfl, rfl⟩ q)
/-- one sign as data -/
def sgn (c : Nat) : PyData := .str ⟨#[c]⟩
/-- what is walked over a value, as data -/
inductive SeqOf : Rs → List PyData → Prop
  | lst (ds : List PyData) : SeqOf (.dat (.list ds)) ds
  | tup (ds : List PyData) : SeqOf (.dat (.tuple ds)) ds
  | str (x : Str) : SeqOf (.dat (.str x)) (x.cps.toList.map sgn)
  | scr (ns : List Int) : SeqOf (.scr ns) (ns.map PyData.int)
section
variable {C : Cz} {ε : Ev} {L : Led} {te : TE} {ta : TA} {q : List PyData → Led → Prop}
theorem it_list {K : PySem.W.Frag} {H : Hp} {a : Addr} {xs : List V} {ds : List PyData} (h : ∀ H', Ext (hid L H) H' → SqL K H' a xs) (hx : RpAll K (hid L H) xs ds) : ItOk K L H (Itl K a) ds := fun L' H' g l i => by
  have e : Ext (hid L H) H' := g.ext.trans hid_sub
  have hl := rpAll_len hx
  refine ⟨fun hi => ⟨xs, h _ e, by omega⟩, fun d hd => ?_⟩
  obtain ⟨v, e1, r1⟩ := rpAll_get hx hd
  refine ⟨⟨xs, v, h _ e, e1⟩, fun w H2 ⟨y1, y2⟩ => ?_⟩
  subst y1
  have := y2 xs (h _ e)
  rw [e1] at this
  cases this
  exact ⟨Grow.refl _ _, l, rp_mono g.ext r1⟩
theorem it_tup {K : PySem.W.Frag} {H : Hp} {a : Addr} {xs : List V} {ds : List PyData} (h : SqT K (hid L H) a xs) (hx : RpAll K (hid L H) xs ds) : ItOk K L H (Itt K a) ds := fun L' H' g l i => by
  have e : Ext (hid L H) H' := g.ext.trans hid_sub
  have hl := rpAll_len hx
  refine ⟨fun hi => ⟨xs, ext_t e h, by omega⟩, fun d hd => ?_⟩
  obtain ⟨v, e1, r1⟩ := rpAll_get hx hd
  refine ⟨⟨xs, v, ext_t e h, e1⟩, fun w H2 ⟨y1, y2⟩ => ?_⟩
  subst y1
  have := y2 xs (ext_t e h)
  rw [e1] at this
  cases this
  exact ⟨Grow.refl _ _, l, rp_mono g.ext r1⟩
theorem it_str {K : PySem.W.Frag} {H : Hp} (x : Str) : ItOk K L H (Its x) (x.cps.toList.map sgn) := fun L' H' g l i => by
  refine ⟨fun hi => ?_, fun d hd => ?_⟩
  · rw [List.length_map, Array.length_toList] at hi
    exact Nat.le_of_eq hi.symm
  · rw [List.getElem?_map, Array.getElem?_toList] at hd
    cases e : x.cps[i]? with
    | none =>
      rw [e] at hd
      cases hd
    | some c =>
      rw [e] at hd
      cases hd
      refine ⟨(Array.getElem?_eq_some_iff.mp e).1, fun w H2 ⟨y1, c', y2, y3⟩ => ?_⟩
      subst y1
      rw [e] at y2
      cases y2
      subst y3
      exact ⟨Grow.refl _ _, l, .str _⟩
theorem it_range {K : PySem.W.Frag} {H : Hp} (lo : Int) (n : Nat) : ItOk K L H (Itr lo n) ((List.range n).map fun i : Nat => PyData.int (lo + (i : Int))) := fun L' H' g l i => by
  refine ⟨fun hi => ?_, fun d hd => ?_⟩
  · rw [List.length_map, List.length_range] at hi
    exact Nat.le_of_eq hi.symm
  · rw [List.getElem?_map] at hd
    by_cases h : i < n
    · rw [List.getElem?_range h] at hd
      cases hd
      refine ⟨h, fun w H2 ⟨y1, y2⟩ => ?_⟩
      subst y1 y2
      exact ⟨Grow.refl _ _, l, .int _⟩
    · rw [List.getElem?_eq_none (by rw [List.length_range]; omega)] at hd
      cases hd
theorem ci_sq {K : PySem.W.Frag} (h : CP C te ε L fun r L1 => ∃ ds, SeqOf r ds ∧ q ds L1) (hK : C.K = K := by rfl) : CI C (iSq K te) ε L q := fun σ H R Rl X z => by
  subst hK
  refine h σ H _ Rl X fun v r L1 H1 g1 k1 R1 o1 ⟨ds, hs, hq⟩ => ?_
  cases hs with
  | lst =>
    cases o1 with
    | @lst a xs _ e ha => exact .inl ⟨a, rfl, ⟨xs, SqL.of (hid_sub _ _ e)⟩, z _ ds L1 H1 g1 k1 R1 (it_list (fun H' x => SqL.of (x _ _ e)) ha) hq⟩
  | tup =>
    cases o1 with
    | @tup a xs _ e ha => exact .inr (.inl ⟨a, rfl, ⟨xs, ext_t hid_sub e⟩, z _ ds L1 H1 g1 k1 R1 (it_tup e ha) hq⟩)
  | str x =>
    cases o1
    exact .inr (.inr ⟨x, rfl, z _ _ L1 H1 g1 k1 R1 (it_str x) hq⟩)
  | scr ns =>
    obtain ⟨a, e, hs⟩ := o1
    exact .inl ⟨a, e, ⟨_, ext_l hid_sub hs⟩, z _ _ L1 H1 g1 k1 R1 (it_list (fun H' x => ext_l x hs) (rpAll_ints ns)) hq⟩
theorem rsAll_int1 {K : PySem.W.Frag} {H : Hp} {vs : List V} {n : Int} (o : RsAll K L H vs [.dat (.int n)]) : vs = [.int n] := by
  cases o with
  | cons a b =>
    cases b
    cases a
    rfl
theorem rsAll_int2 {K : PySem.W.Frag} {H : Hp} {vs : List V} {n m : Int} (o : RsAll K L H vs [.dat (.int n), .dat (.int m)]) : vs = [.int n, .int m] := by
  cases o with
  | cons a b =>
    cases a
    rw [rsAll_int1 b]
theorem rsAll_int3 {K : PySem.W.Frag} {H : Hp} {vs : List V} {n m l : Int} (o : RsAll K L H vs [.dat (.int n), .dat (.int m), .dat (.int l)]) : vs = [.int n, .int m, .int l] := by
  cases o with
  | cons a b =>
    cases a
    rw [rsAll_int2 b]
def rng (lo : Int) (n : Nat) : List PyData := (List.range n).map fun i : Nat => PyData.int (lo + (i : Int))
theorem ci_range1 (h : CA C ta ε L fun rs L1 => ∃ n : Int, rs = [.dat (.int n)] ∧ (-(2 ^ 62) ≤ n ∧ n < 2 ^ 62) ∧ q (rng 0 n.toNat) L1) : CI C (iRng1 ta) ε L q := fun σ H R Rl X z =>
  h σ H _ Rl X fun vs rs L1 H1 g1 k1 R1 o1 ⟨n, e, hb, hq⟩ => by
    subst e
    exact ⟨n, rsAll_int1 o1, hb.1, hb.2, z _ _ L1 H1 g1 k1 R1 (it_range 0 _) hq⟩
theorem ci_range2 (h : CA C ta ε L fun rs L1 => ∃ n m : Int, rs = [.dat (.int n), .dat (.int m)] ∧ (-(2 ^ 62) ≤ n ∧ n < 2 ^ 62 ∧ -(2 ^ 62) ≤ m ∧ m < 2 ^ 62) ∧ q (rng n (m - n).toNat) L1) : CI C (iRng2 ta) ε L q := fun σ H R Rl X z =>
  h σ H _ Rl X fun vs rs L1 H1 g1 k1 R1 o1 ⟨n, m, e, hb, hq⟩ => by
    subst e
    exact ⟨n, m, rsAll_int2 o1, hb, z _ _ L1 H1 g1 k1 R1 (it_range n _) hq⟩
/-- a step of minus one -/
theorem it_rangeD {K : PySem.W.Frag} {H : Hp} (lo c : Int) (n : Nat) : ItOk K L H (Itc lo c n) ((List.range n).map fun i : Nat => PyData.int (lo + (i : Int) * c)) := fun L' H' g l i => by
  refine ⟨fun hi => ?_, fun d hd => ?_⟩
  · rw [List.length_map, List.length_range] at hi
    exact Nat.le_of_eq hi.symm
  · rw [List.getElem?_map] at hd
    by_cases h : i < n
    · rw [List.getElem?_range h] at hd
      cases hd
      refine ⟨h, fun w H2 ⟨y1, y2⟩ => ?_⟩
      subst y1 y2
      exact ⟨Grow.refl _ _, l, .int _⟩
    · rw [List.getElem?_eq_none (by rw [List.length_range]; omega)] at hd
      cases hd
theorem ci_rangeD (h : CA C ta ε L fun rs L1 => ∃ n m : Int, rs = [.dat (.int n), .dat (.int m), .dat (.int (-1))] ∧ (-(2 ^ 62) ≤ n ∧ n < 2 ^ 62 ∧ -(2 ^ 62) ≤ m ∧ m < 2 ^ 62) ∧
    q ((List.range (n - m).toNat).map fun i : Nat => PyData.int (n + (i : Int) * (-1))) L1) : CI C (iRng3 ta) ε L q := fun σ H R Rl X z =>
  h σ H _ Rl X fun vs rs L1 H1 g1 k1 R1 o1 ⟨n, m, e, hb, hq⟩ => by
    subst e
    exact ⟨n, m, -1, _, rsAll_int3 o1, RgC.neg hb.1 hb.2.1 hb.2.2.1 hb.2.2.2, z _ _ L1 H1 g1 k1 R1 (it_rangeD n (-1) _) hq⟩
end

/-! ### comprehensions -/
def wipeE (ε : Ev) : List Nat → Ev
  | [] => ε
  | v :: vs => (wipeE ε vs).set v none
theorem rel_none {K : PySem.W.Frag} {L : Led} {ε : Ev} {σ : L2.St} {H : Hp} (R : Rel K L ε σ H) (i : Nat) : Rel K L (ε.set i none) (σ.set i none) H := by
  refine ⟨by rw [List.length_set, List.length_set]; exact R.len, fun j s e => ?_, R.led⟩
  by_cases h : i = j
  · subst h
    by_cases hl : i < ε.length
    · rw [List.getElem?_set_self hl] at e
      cases e
    · rw [List.getElem?_eq_none (by rw [List.length_set]; omega)] at e
      cases e
  · rw [List.getElem?_set_ne h] at e
    obtain ⟨w, e2, o2⟩ := R.slot j s e
    exact ⟨w, by rw [List.getElem?_set_ne h]; exact e2, o2⟩
theorem rel_wipe {K : PySem.W.Frag} {L : Led} {ε : Ev} {σ : L2.St} {H : Hp} (R : Rel K L ε σ H) : ∀ vs : List Nat, Rel K L (wipeE ε vs) (wipe σ vs) H
  | [] => R
  | v :: vs => rel_none (rel_wipe R vs) v
/-- the target stores nothing but the block's own names -/
def GOwn (g : TG) (vs : List Nat) : Prop := ∀ v σ H (Q : L2.St → Hp → Prop), g v σ H Q → g v σ H fun σ2 H2 => wipe σ2 vs = wipe σ vs ∧ Q σ2 H2
theorem wipe_set_in {σ : L2.St} {j : Nat} {y : Option V} : ∀ {vs : List Nat}, j ∈ vs → wipe (σ.set j y) vs = wipe σ vs
  | [], h => by cases h
  | v :: vs, h => by
    unfold wipe
    by_cases e : v = j
    · subst e
      by_cases h2 : v ∈ vs
      · rw [wipe_set_in h2]
      · have : ∀ ws : List Nat, v ∉ ws → wipe (σ.set v y) ws = (wipe σ ws).set v y := by
          intro ws
          induction ws with
          | nil => intro _; rfl
          | cons u us ih =>
            intro hn
            simp only [List.mem_cons, not_or] at hn
            unfold wipe
            rw [ih hn.2, List.set_comm _ _ (Ne.symm hn.1).symm]
        rw [this vs h2, List.set_set]
    · rcases List.mem_cons.mp h with z | z
      · exact absurd z.symm e
      · rw [wipe_set_in z]
theorem gown_name {i : Nat} {vs : List Nat} (h : i ∈ vs := by decide) : GOwn (gName i) vs := fun v σ H Q q => ⟨wipe_set_in h, q⟩
theorem gown_tup2 {K : PySem.W.Frag} {i j : Nat} {vs : List Nat} (h : i ∈ vs := by decide) (h2 : j ∈ vs := by decide) : GOwn (gTup K 2 (gCons (gName i) (gCons (gName j) gNil))) vs := fun v σ H Q q => by
  obtain ⟨a, xs, e, hs, hl, v1, r1, e1, v2, r2, e2, e3, q⟩ := q
  exact ⟨a, xs, e, hs, hl, v1, r1, e1, v2, r2, e2, e3, by rw [wipe_set_in h2, wipe_set_in h], q⟩
theorem gown_tup3 {K : PySem.W.Frag} {i j l : Nat} {vs : List Nat} (h : i ∈ vs := by decide) (h2 : j ∈ vs := by decide) (h3 : l ∈ vs := by decide) : GOwn (gTup K 3 (gCons (gName i) (gCons (gName j) (gCons (gName l) gNil)))) vs := fun v σ H Q q => by
  obtain ⟨a, xs, e, hs, hl, v1, r1, e1, v2, r2, e2, v3, r3, e3, e4, q⟩ := q
  exact ⟨a, xs, e, hs, hl, v1, r1, e1, v2, r2, e2, v3, r3, e3, e4, by rw [wipe_set_in h3, wipe_set_in h2, wipe_set_in h], q⟩
theorem wipe_wipe (σ : L2.St) : ∀ vs : List Nat, wipe (wipe σ vs) vs = wipe σ vs := by
  intro vs
  apply List.ext_getElem?
  intro i
  by_cases hi : i ∈ vs
  · have key : ∀ (τ : L2.St) (ws : List Nat), i ∈ ws → (wipe τ ws)[i]? = if i < τ.length then some none else none := by
      intro τ ws
      induction ws with
      | nil => intro h; cases h
      | cons u us ih =>
        intro h
        unfold wipe
        by_cases e : u = i
        · subst e
          by_cases hl : u < τ.length
          · rw [List.getElem?_set_self (by rw [wipe_length]; exact hl), if_pos hl]
          · rw [if_neg hl, List.getElem?_eq_none (by rw [List.length_set, wipe_length]; omega)]
        · rw [List.getElem?_set_ne e]
          rcases List.mem_cons.mp h with z | z
          · exact absurd z.symm e
          · exact ih z
    rw [key _ _ hi, key _ _ hi, wipe_length]
  · have key : ∀ (τ : L2.St) (ws : List Nat), i ∉ ws → (wipe τ ws)[i]? = τ[i]? := by
      intro τ ws
      induction ws with
      | nil => intro _; rfl
      | cons u us ih =>
        intro h
        simp only [List.mem_cons, not_or] at h
        unfold wipe
        rw [List.getElem?_set_ne (Ne.symm h.1), ih h.2]
    rw [key _ _ hi, key _ _ hi]
end Z

set_option Elab.async false
set_option linter.all false
set_option maxRecDepth 100000
set_option maxHeartbeats 2000000
namespace Z
open PySem PySem.Spec PyProof.Rows L2
theorem LOk.app {K : PySem.W.Frag} {L : Led} {H : Hp} {D : Addr} {ds : List PyData} {xs : List V} {y : V} {d : PyData} (l : LOk K (L ++ [(D, .lst ds)]) H) (h : H D = some (.lst xs)) (r : Rp K (hid (L ++ [(D, .lst ds)]) H) y d) :
    LOk K (L ++ [(D, .lst (ds ++ [d]))]) (upd H D (.lst (xs ++ [y]))) := by
  have hk : (L ++ [(D, Mo.lst (ds ++ [d]))]).ks = (L ++ [(D, Mo.lst ds)]).ks := by
    unfold Led.ks
    rw [List.map_append, List.map_append]
    rfl
  have hD : D ∈ (L ++ [(D, Mo.lst ds)]).ks := by
    unfold Led.ks
    rw [List.map_append]
    exact List.mem_append_right _ List.mem_cons_self
  have ex : Ext (hid (L ++ [(D, Mo.lst ds)]) H) (hid (L ++ [(D, Mo.lst (ds ++ [d]))]) (upd H D (.lst (xs ++ [y])))) := fun a o e => by
    by_cases ha : a ∈ (L ++ [(D, Mo.lst ds)]).ks
    · rw [hid_in ha] at e
      cases e
    · rw [hid_out ha] at e
      rw [hid_out (by rw [hk]; exact ha), upd_ne (fun z : a = D => ha (by rw [z]; exact hD))]
      exact e
  have hl := l.at_ (D, .lst ds) (List.mem_append_right _ List.mem_cons_self)
  obtain ⟨ys, e1, e2⟩ : ∃ ys, H D = some (.lst ys) ∧ RpAll K (hid (L ++ [(D, Mo.lst ds)]) H) ys ds := hl
  have e3 : ys = xs := by
    rw [h] at e1
    cases e1
    rfl
  subst e3
  refine ⟨by rw [hk]; exact l.nd, fun p hp => ?_⟩
  rcases List.mem_append.mp hp with hp | hp
  · have q := l.at_ p (List.mem_append_left _ hp)
    have hn : p.1 ≠ D := fun z => by
      have nd := l.nd
      unfold Led.ks at nd
      rw [List.map_append] at nd
      exact (List.nodup_append.mp nd).2.2 p.1 (List.mem_map.mpr ⟨p, hp, rfl⟩) D List.mem_cons_self z
    obtain ⟨a, m⟩ := p
    cases m with
    | drw =>
      obtain ⟨ns, z⟩ := q
      exact ⟨ns, by rw [upd_ne hn]; exact z⟩
    | lst es =>
      obtain ⟨zs, z, w⟩ := q
      exact ⟨zs, by rw [upd_ne hn]; exact z, rpAll_mono ex w⟩
    | dct es =>
      obtain ⟨zs, z, w⟩ := q
      exact ⟨zs, by rw [upd_ne hn]; exact z, rpKv_mono ex w⟩
  · have e := List.mem_singleton.mp hp
    subst e
    exact ⟨_, upd_same, rpAll_app (rpAll_mono ex e2) (rpAll_one (rp_mono ex r))⟩
/-- a written list that is owned last is given up: it is data from now on -/
theorem LOk.drop {K : PySem.W.Frag} {L : Led} {H : Hp} {D : Addr} {m : Mo} (l : LOk K (L ++ [(D, m)]) H) : LOk K L H := by
  have ex : Ext (hid (L ++ [(D, m)]) H) (hid L H) := fun a o e => by
    by_cases ha : a ∈ (L ++ [(D, m)]).ks
    · rw [hid_in ha] at e
      cases e
    · rw [hid_out ha] at e
      rw [hid_out fun z => ha (keeps_own a z)]
      exact e
  refine ⟨?_, fun p hp => ?_⟩
  · have nd := l.nd
    unfold Led.ks at nd
    rw [List.map_append] at nd
    exact (List.nodup_append.mp nd).1
  · have q := l.at_ p (List.mem_append_left _ hp)
    obtain ⟨a, m2⟩ := p
    cases m2 with
    | drw => exact q
    | lst es =>
      obtain ⟨zs, z, w⟩ := q
      exact ⟨zs, z, rpAll_mono ex w⟩
    | dct es =>
      obtain ⟨zs, z, w⟩ := q
      exact ⟨zs, z, rpKv_mono ex w⟩
theorem ext_drop {L : Led} {H : Hp} {D : Addr} {m : Mo} : Ext (hid (L ++ [(D, m)]) H) (hid L H) := fun a o e => by
  by_cases ha : a ∈ (L ++ [(D, m)]).ks
  · rw [hid_in ha] at e
    cases e
  · rw [hid_out ha] at e
    rw [hid_out fun z => ha (keeps_own a z)]
    exact e
section
variable {C : Cz} {ε : Ev} {L : Led} {k : Rs → Led → Prop} {wi wi1 : TI} {g g1 : TG} {tt tt1 : TT} {te : TE} {vs vs1 : List Nat}
abbrev plus (L : Led) (p : Addr) (acc : List PyData) : Led := L ++ [(p, .lst acc)]
theorem plus_ks (L : Led) (p : Addr) (a b : List PyData) : (plus L p a).ks = (plus L p b).ks := by
  unfold plus Led.ks
  rw [List.map_append, List.map_append]
  rfl
theorem Grow.re {H H' : Hp} {L L' L2 : Led} (g : Grow H L H' L') (h : L'.ks = L2.ks) : Grow H L H' L2 := ⟨g.old, fun a ha => g.new a (by rw [h]; exact ha)⟩
theorem Grow.re1 {H H' : Hp} {L L' L2 : Led} (g : Grow H L H' L') (h : L.ks = L2.ks) : Grow H L2 H' L' := ⟨fun a o e n => g.old a o e (by rw [h]; exact n), fun a ha => by rw [← h]; exact g.new a ha⟩
theorem grow_app {H : Hp} {L : Led} {p : Addr} {acc acc' : List PyData} {o : HO} : Grow H (plus L p acc) (upd H p o) (plus L p acc') := by
  have hp : p ∈ (plus L p acc).ks := by
    unfold plus Led.ks
    rw [List.map_append]
    exact List.mem_append_right _ List.mem_cons_self
  exact ⟨fun a u e n => by rw [upd_ne (fun z : a = p => n (by rw [z]; exact hp))]; exact e, fun a ha => .inl (by rw [plus_ks L p acc acc']; exact ha)⟩
/-- [e for target in iter if ..]: I by the turn and the list so far -/
theorem cp_lc (h : CI C wi ε L fun ds L1 => ds.length < sizeLine ∧ ∃ I : Nat → List PyData → Prop, I 0 [] ∧
      (∀ i d acc p, ds[i]? = some d → I i acc → p ∉ L1.ks → CG (C0 C.K) g (.dat d) (wipeE ε vs) (plus L1 p acc) fun ε2 L2 => L2 = plus L1 p acc ∧
        CT (C0 C.K) tt ε2 L2 fun b L3 => L3 = plus L1 p acc ∧ if b = true then CP (C0 C.K) te ε2 L3 fun r L4 => L4 = plus L1 p acc ∧ ∃ y, r = .dat y ∧ I (i + 1) (acc ++ [y]) else I (i + 1) acc) ∧
      ∀ acc, I ds.length acc → k (.dat (.list acc)) L1) (ho : GOwn g vs) : CP C (tLc wi g tt te vs) ε L k := fun σ H Q R X z =>
  h σ H _ R X fun J ds L1 H1 g1 k1 R1 J1 ⟨hsz, I, i0, hs, hd⟩ D hD => by
    have hDn : D ∉ L1.ks := R1.led.fresh hD
    refine ⟨fun i m H' => m = ds.length - i ∧ i ≤ ds.length ∧ ∃ acc, acc.length ≤ i ∧ I i acc ∧ Grow H1 L1 H' (plus L1 D acc) ∧ LOk C.K (plus L1 D acc) H', ⟨_, rfl, Nat.zero_le _, [], Nat.le_refl _, i0, grow_own hD, R1.led.own hD .nil⟩, ?_⟩
    rintro i m H' ⟨rfl, hi, acc, hal, hI, g', l'⟩
    obtain ⟨js, jg⟩ := J1 _ H' g' l' i
    have RW : Rel C.K (plus L1 D acc) (wipeE ε vs) (wipe σ vs) H' := (rel_wipe R1 vs).grow g' keeps_own l'
    by_cases hl : i < ds.length
    · have hx : ds[i]? = some ds[i] := List.getElem?_eq_getElem hl
      obtain ⟨j1, j2⟩ := jg _ hx
      refine .inr ⟨j1, fun H2 => i + 1 ≤ ds.length ∧ ∃ acc2, acc2.length ≤ i + 1 ∧ I (i + 1) acc2 ∧ Grow H1 L1 H2 (plus L1 D acc2) ∧ LOk C.K (plus L1 D acc2) H2, fun H2 ⟨a, b⟩ => ⟨ds.length - (i + 1), by omega, rfl, a, b⟩, fun v H2 y => ?_⟩
      obtain ⟨g2, l2, rp⟩ := j2 v H2 y
      have key := hs i _ acc D hx hI hDn v (wipe σ vs) H2 (fun σ3 H3 => tt σ3 H3 fun b H4 => if b = true then te σ3 H4 fun y H5 => ∃ acc, H5 D = some (.lst acc) ∧ acc.length < sizeLine ∧ (i + 1 ≤ ds.length ∧ ∃ acc2, acc2.length ≤ i + 1 ∧ I (i + 1) acc2 ∧ Grow H1 L1 (upd H5 D (.lst (acc ++ [y]))) (plus L1 D acc2) ∧ LOk C.K (plus L1 D acc2) (upd H5 D (.lst (acc ++ [y])))) else (i + 1 ≤ ds.length ∧ ∃ acc2, acc2.length ≤ i + 1 ∧ I (i + 1) acc2 ∧ Grow H1 L1 H4 (plus L1 D acc2) ∧ LOk C.K (plus L1 D acc2) H4)) (RW.grow g2 (Keeps.refl _) l2) rp fun ε3 L3 σ3 H3 g3 k3 R3 q3 => ?_
      · have q := ho v (wipe σ vs) H2 _ key
        rw [wipe_wipe] at q
        exact q
      obtain ⟨e3, q3⟩ := q3
      subst e3
      refine q3 σ3 H3 _ R3 exOk0 fun b L4 H4 g4 k4 R4 q4 => ?_
      obtain ⟨e4, q4⟩ := q4
      subst e4
      have gg := g'.trans (g2.trans (g3.trans g4))
      cases b with
      | false =>
        rw [if_neg (by decide)] at q4 ⊢
        exact ⟨hl, acc, Nat.le_succ_of_le hal, q4, gg, R4.led⟩
      | true =>
        rw [if_pos rfl] at q4 ⊢
        refine q4 σ3 H4 _ R4 exOk0 fun w r L5 H5 g5 k5 R5 o5 q5 => ?_
        obtain ⟨e5, yd, er, q5⟩ := q5
        subst e5 er
        obtain ⟨xs, ex, hxs⟩ := R5.led.isLst (List.mem_append_right _ List.mem_cons_self)
        refine ⟨xs, ex, by rw [rpAll_len hxs]; omega, hl, acc ++ [yd], by rw [List.length_append]; exact Nat.succ_le_succ hal, q5, (gg.trans g5).trans grow_app, R5.led.app ex o5⟩
    · have e : i = ds.length := by omega
      subst e
      obtain ⟨xs, ex, hxs⟩ := l'.isLst (List.mem_append_right _ List.mem_cons_self)
      have l2 : LOk C.K L1 H' := l'.drop
      have g2 : Grow H1 L1 H' L1 := ⟨g'.old, fun a ha => .inl ha⟩
      exact .inl ⟨js rfl, z (.ref D) (.dat (.list acc)) L1 H' (g1.trans g2) k1 (R1.grow g2 (Keeps.refl _) l2) (.lst (by rw [hid_out hDn]; exact ex) (rpAll_mono ext_drop hxs)) (hd acc hI)⟩
/-- each item gives one element or none, the draws left alone -/
theorem cp_lcF (f : PyData → Option PyData) (h : CI C wi ε L fun ds L1 => ds.length < sizeLine ∧
      (∀ d ∈ ds, ∀ acc p, p ∉ L1.ks → CG (C0 C.K) g (.dat d) (wipeE ε vs) (plus L1 p acc) fun ε2 L2 => L2 = plus L1 p acc ∧
        CT (C0 C.K) tt ε2 L2 fun b L3 => L3 = plus L1 p acc ∧ if b = true then CP (C0 C.K) te ε2 L3 fun r L4 => L4 = plus L1 p acc ∧ ∃ y, r = .dat y ∧ f d = some y else f d = none) ∧
      k (.dat (.list (ds.filterMap f))) L1) (ho : GOwn g vs) : CP C (tLc wi g tt te vs) ε L k := by
  refine cp_lc ?_ ho
  refine fun σ H R Rl X z => h σ H R Rl X fun J ds L' H' g1 k1 R1 J1 ⟨a, b, c⟩ => z J ds L' H' g1 k1 R1 J1 ⟨a, fun i acc => acc = (ds.take i).filterMap f, rfl, fun i d acc p hd hI hp => ?_, fun acc hI => ?_⟩
  · have hm : d ∈ ds := List.mem_of_getElem? hd
    have ht : ds.take (i + 1) = ds.take i ++ [d] := by rw [List.take_add_one, hd] <;> rfl
    intro v σ2 H2 Q2 R2 o2 z2
    refine b d hm acc p hp v σ2 H2 Q2 R2 o2 fun ε3 L3 σ3 H3 g3 k3 R3 ⟨e3, q3⟩ => z2 ε3 L3 σ3 H3 g3 k3 R3 ⟨e3, CT.mono q3 fun bb L4 ⟨e4, q4⟩ => ⟨e4, ?_⟩⟩
    cases bb with
    | true =>
      rw [if_pos rfl] at q4 ⊢
      exact CP.mono q4 fun r L5 ⟨e5, y, er, ey⟩ => ⟨e5, y, er, (by show acc ++ [y] = (ds.take (i + 1)).filterMap f; rw [ht, List.filterMap_append, hI, List.filterMap_cons, ey]; rfl)⟩
    | false =>
      rw [if_neg (by decide)] at q4 ⊢
      show acc = (ds.take (i + 1)).filterMap f
      rw [ht, List.filterMap_append, hI, List.filterMap_cons, q4]
      show _ = _ ++ []
      rw [List.append_nil]
  · have e : acc = (ds.take ds.length).filterMap f := hI
    rw [e, List.take_length]
    exact c
end
end Z

set_option Elab.async false
set_option linter.all false
set_option maxRecDepth 100000
set_option maxHeartbeats 2000000
namespace Z
open PySem PySem.Spec PyProof.Rows L2
theorem rel_led {K : PySem.W.Frag} {L L' : Led} {ε : Ev} {σ : L2.St} {H H' : Hp} (R : Rel K L ε σ H) (g : Grow H L H' L') (k : Keeps L L') (l : LOk K L' H') : Rel K L' ε σ H' := R.grow g k l
theorem GOwn.use {g : TG} {vs : List Nat} (o : GOwn g vs) {v : V} {σ : L2.St} {H : Hp} {Q : L2.St → Hp → Prop} (q : g v (wipe σ vs) H Q) : g v (wipe σ vs) H fun σ2 H2 => wipe σ2 vs = wipe σ vs ∧ Q σ2 H2 := by
  have z := o v (wipe σ vs) H Q q
  rw [wipe_wipe] at z
  exact z
theorem keeps_plus {L : Led} {p : Addr} {a b : List PyData} : Keeps (plus L p a) (plus L p b) := fun x h => by
  rw [plus_ks L p b a]
  exact h
section
variable {C : Cz} {ε : Ev} {L : Led} {k : Rs → Led → Prop} {wi wi1 : TI} {g g1 : TG} {tt tt1 : TT} {te : TE} {vs vs1 : List Nat}
/-- [e for a in s if .. for b in t if ..]: I by the outer turn and the list so far, J by the inner one -/
theorem cp_lc2 (h : CI C wi ε L fun ds L1 => ∃ I : Nat → List PyData → Prop, I 0 [] ∧
      (∀ i d acc0 p, ds[i]? = some d → I i acc0 → p ∉ L1.ks → CG (C0 C.K) g (.dat d) (wipeE ε vs) (plus L1 p acc0) fun ε2 L2 => L2 = plus L1 p acc0 ∧
        CT (C0 C.K) tt ε2 L2 fun b L3 => L3 = plus L1 p acc0 ∧ if b = true then CI (C0 C.K) wi1 ε2 L3 fun es L4 => L4 = plus L1 p acc0 ∧ ∃ J : Nat → List PyData → Prop, J 0 acc0 ∧
          (∀ j e acc, es[j]? = some e → J j acc → CG (C0 C.K) g1 (.dat e) (wipeE ε2 vs1) (plus L1 p acc) fun ε3 L5 => L5 = plus L1 p acc ∧
            CT (C0 C.K) tt1 ε3 L5 fun b L6 => L6 = plus L1 p acc ∧ if b = true then acc.length < sizeLine ∧ CP (C0 C.K) te ε3 L6 fun r L7 => L7 = plus L1 p acc ∧ ∃ y, r = .dat y ∧ J (j + 1) (acc ++ [y]) else J (j + 1) acc) ∧
          ∀ acc, J es.length acc → I (i + 1) acc
        else I (i + 1) acc0) ∧
      ∀ acc, I ds.length acc → k (.dat (.list acc)) L1) (ho : GOwn g vs) (ho1 : GOwn g1 vs1) : CP C (tLc2 wi g tt wi1 g1 tt1 te vs vs1) ε L k := fun σ H Q R X z =>
  h σ H _ R X fun J ds L1 H1 g1' k1 R1 J1 ⟨I, i0, hs, hd⟩ D hD => by
    have hDn : D ∉ L1.ks := R1.led.fresh hD
    refine ⟨fun i m H' => m = ds.length - i ∧ i ≤ ds.length ∧ ∃ acc, I i acc ∧ Grow H1 L1 H' (plus L1 D acc) ∧ LOk C.K (plus L1 D acc) H', ⟨_, rfl, Nat.zero_le _, [], i0, grow_own hD, R1.led.own hD .nil⟩, ?_⟩
    rintro i m H' ⟨rfl, hi, acc, hI, g', l'⟩
    obtain ⟨js, jg⟩ := J1 _ H' g' l' i
    have RW : Rel C.K (plus L1 D acc) (wipeE ε vs) (wipe σ vs) H' := (rel_wipe R1 vs).grow g' keeps_own l'
    by_cases hl : i < ds.length
    · have hx : ds[i]? = some ds[i] := List.getElem?_eq_getElem hl
      obtain ⟨j1, j2⟩ := jg _ hx
      refine .inr ⟨j1, fun H2 => i + 1 ≤ ds.length ∧ ∃ acc2, I (i + 1) acc2 ∧ Grow H1 L1 H2 (plus L1 D acc2) ∧ LOk C.K (plus L1 D acc2) H2, fun H2 ⟨a, b⟩ => ⟨ds.length - (i + 1), by omega, rfl, a, b⟩, fun v H2 y => ?_⟩
      obtain ⟨g2, l2, rp⟩ := j2 v H2 y
      refine ho.use ?_
      refine hs i _ acc D hx hI hDn v (wipe σ vs) H2 _ (RW.grow g2 (Keeps.refl _) l2) rp fun ε3 L3 σ3 H3 g3 k3 R3 ⟨e3, q3⟩ => ?_
      subst e3
      refine q3 σ3 H3 _ R3 exOk0 fun b L4 H4 g4 k4 R4 ⟨e4, q4⟩ => ?_
      subst e4
      have gg := g'.trans (g2.trans (g3.trans g4))
      cases b with
      | false =>
        rw [if_neg (by decide)] at q4 ⊢
        exact ⟨hl, acc, q4, gg, R4.led⟩
      | true =>
        rw [if_pos rfl] at q4 ⊢
        refine q4 σ3 H4 _ R4 exOk0 fun J2 es L5 H5 g5 k5 R5 JO ⟨e5, Iv, v0, vs', vd⟩ => ?_
        subst e5
        have gg5 := gg.trans g5
        refine ⟨fun j m H' => m = es.length - j ∧ j ≤ es.length ∧ ∃ acc2, Iv j acc2 ∧ Grow H5 (plus L1 D acc) H' (plus L1 D acc2) ∧ LOk C.K (plus L1 D acc2) H', ⟨_, rfl, Nat.zero_le _, acc, v0, Grow.refl _ _, R5.led⟩, ?_⟩
        rintro j m H' ⟨rfl, hj, acc2, hV, g', l'⟩
        obtain ⟨js', jg'⟩ := JO _ H' g' l' j
        have RW5 : Rel C.K (plus L1 D acc2) (wipeE ε3 vs1) (wipe σ3 vs1) H' := (rel_wipe R5 vs1).grow g' keeps_plus l'
        by_cases hl2 : j < es.length
        · have hx2 : es[j]? = some es[j] := List.getElem?_eq_getElem hl2
          obtain ⟨j3, j4⟩ := jg' _ hx2
          refine .inr ⟨j3, fun H2 => j + 1 ≤ es.length ∧ ∃ acc3, Iv (j + 1) acc3 ∧ Grow H5 (plus L1 D acc) H2 (plus L1 D acc3) ∧ LOk C.K (plus L1 D acc3) H2, fun H2 ⟨a, b⟩ => ⟨es.length - (j + 1), by omega, rfl, a, b⟩, fun v H2 y => ?_⟩
          obtain ⟨g7, l7, rp7⟩ := j4 v H2 y
          refine ho1.use ?_
          refine vs' j _ acc2 hx2 hV v (wipe σ3 vs1) H2 _ (RW5.grow g7 (Keeps.refl _) l7) rp7 fun ε6 L6 σ6 H6 g6 k6 R6 ⟨e6, q6⟩ => ?_
          subst e6
          refine q6 σ6 H6 _ R6 exOk0 fun b L8 H8 g8 k8 R8 ⟨e8, q8⟩ => ?_
          subst e8
          have gg8 := g'.trans (g7.trans (g6.trans g8))
          cases b with
          | false =>
            rw [if_neg (by decide)] at q8 ⊢
            exact ⟨hl2, acc2, q8, gg8, R8.led⟩
          | true =>
            rw [if_pos rfl] at q8 ⊢
            refine q8.2 σ6 H8 _ R8 exOk0 fun w r L9 H9 g9 k9 R9 o9 ⟨e9, yd, er, q9⟩ => ?_
            subst e9 er
            obtain ⟨xs, ex, hxs⟩ := R9.led.isLst (List.mem_append_right _ List.mem_cons_self)
            exact ⟨xs, ex, by rw [rpAll_len hxs]; exact q8.1, hl2, acc2 ++ [yd], q9, (gg8.trans g9).trans grow_app, R9.led.app ex o9⟩
        · have e : j = es.length := by omega
          subst e
          exact .inl ⟨js' rfl, hl, acc2, vd acc2 hV, gg5.trans g', l'⟩
    · have e : i = ds.length := by omega
      subst e
      obtain ⟨xs, ex, hxs⟩ := l'.isLst (List.mem_append_right _ List.mem_cons_self)
      have l2 : LOk C.K L1 H' := l'.drop
      have g2 : Grow H1 L1 H' L1 := ⟨g'.old, fun a ha => .inl ha⟩
      exact .inl ⟨js rfl, z (.ref D) (.dat (.list acc)) L1 H' (g1'.trans g2) k1 (R1.grow g2 (Keeps.refl _) l2) (.lst (by rw [hid_out hDn]; exact ex) (rpAll_mono ext_drop hxs)) (hd acc hI)⟩
/-- the same, the list told as a function: f of both items -/
theorem cp_lc2F (es : PyData → List PyData) (f : PyData → PyData → Option PyData) (h : CI C wi ε L fun ds L1 => (ds.flatMap fun d => (es d).filterMap (f d)).length < sizeLine ∧
      (∀ d ∈ ds, ∀ acc p, p ∉ L1.ks → CG (C0 C.K) g (.dat d) (wipeE ε vs) (plus L1 p acc) fun ε2 L2 => L2 = plus L1 p acc ∧
        CI (C0 C.K) wi1 ε2 L2 fun es' L4 => L4 = plus L1 p acc ∧ es' = es d ∧
          (∀ e ∈ es d, ∀ acc, CG (C0 C.K) g1 (.dat e) (wipeE ε2 vs1) (plus L1 p acc) fun ε3 L5 => L5 = plus L1 p acc ∧
            CT (C0 C.K) tt1 ε3 L5 fun b L6 => L6 = plus L1 p acc ∧ if b = true then CP (C0 C.K) te ε3 L6 fun r L7 => L7 = plus L1 p acc ∧ ∃ y, r = .dat y ∧ f d e = some y else f d e = none)) ∧
      k (.dat (.list (ds.flatMap fun d => (es d).filterMap (f d)))) L1) (ho : GOwn g vs) (ho1 : GOwn g1 vs1) : CP C (tLc2 wi g tYes wi1 g1 tt1 te vs vs1) ε L k := by
  refine cp_lc2 ?_ ho ho1
  refine fun σ H R Rl X z => h σ H R Rl X fun J ds L' H' g1' k1 R1 J1 ⟨a, b, c⟩ => z J ds L' H' g1' k1 R1 J1 ⟨fun i acc => acc = (ds.take i).flatMap fun d => (es d).filterMap (f d), rfl, fun i d acc0 p hd hI hp => ?_, fun acc hI => ?_⟩
  · have hm : d ∈ ds := List.mem_of_getElem? hd
    have ht : ds.take (i + 1) = ds.take i ++ [d] := by rw [List.take_add_one, hd] <;> rfl
    have hz : acc0.length + ((es d).filterMap (f d)).length < sizeLine := by
      have e1 : acc0 = (ds.take i).flatMap fun d => (es d).filterMap (f d) := hI
      have e2 : (ds.take i ++ [d] ++ ds.drop (i + 1)) = ds := by rw [← ht]; exact List.take_append_drop _ _
      have e3 : (ds.flatMap fun d => (es d).filterMap (f d)).length = acc0.length + ((es d).filterMap (f d)).length + ((ds.drop (i + 1)).flatMap fun d => (es d).filterMap (f d)).length := by
        rw [← e2, List.flatMap_append, List.flatMap_append, List.length_append, List.length_append, ← e1]
        rw [e2]
        simp
      omega
    intro v σ2 H2 Q2 R2 o2 z2
    refine b d hm acc0 p hp v σ2 H2 Q2 R2 o2 fun ε3 L3 σ3 H3 g3 k3 R3 ⟨e3, q3⟩ => z2 ε3 L3 σ3 H3 g3 k3 R3 ⟨e3, ?_⟩
    intro σ4 H4 Q4 R4 X4 z4
    refine z4 true L3 H4 (Grow.refl _ _) (Keeps.refl _) R4 ⟨e3, ?_⟩
    rw [if_pos rfl]
    intro σ5 H5 Rr5 R5 X5 z5
    refine q3 σ5 H5 Rr5 R5 X5 fun J5 es5 L6 H6 g6 k6 R6 J6 ⟨e6, ee, b6⟩ => z5 J5 es5 L6 H6 g6 k6 R6 J6 ⟨e6, ?_⟩
    subst ee
    refine ⟨fun j acc => acc = acc0 ++ ((es d).take j).filterMap (f d), by simp, fun j e acc he hJ => ?_, fun acc hJ => ?_⟩
    · have hme : e ∈ es d := List.mem_of_getElem? he
      have ht2 : (es d).take (j + 1) = (es d).take j ++ [e] := by rw [List.take_add_one, he] <;> rfl
      intro v7 σ7 H7 Q7 R7 o7 z7
      refine b6 e hme acc v7 σ7 H7 Q7 R7 o7 fun ε8 L8 σ8 H8 g8 k8 R8 ⟨e8, q8⟩ => z7 ε8 L8 σ8 H8 g8 k8 R8 ⟨e8, CT.mono q8 fun bb L9 ⟨e9, q9⟩ => ⟨e9, ?_⟩⟩
      have hJ' : acc = acc0 ++ ((es d).take j).filterMap (f d) := hJ
      cases bb with
      | true =>
        rw [if_pos rfl] at q9 ⊢
        refine ⟨?_, CP.mono q9 fun r L5 ⟨e5, y, er, ey⟩ => ⟨e5, y, er, ?_⟩⟩
        · have : (((es d).take j).filterMap (f d)).length ≤ ((es d).filterMap (f d)).length := ((List.take_sublist j (es d)).filterMap (f d)).length_le
          rw [hJ', List.length_append]
          omega
        · show acc ++ [y] = acc0 ++ ((es d).take (j + 1)).filterMap (f d)
          rw [ht2, List.filterMap_append, hJ', List.filterMap_cons, ey, List.append_assoc]
          rfl
      | false =>
        rw [if_neg (by decide)] at q9 ⊢
        show acc = acc0 ++ ((es d).take (j + 1)).filterMap (f d)
        rw [ht2, List.filterMap_append, hJ', List.filterMap_cons, q9]
        show _ = acc0 ++ (_ ++ [])
        rw [List.append_nil]
    · have hJ' : acc = acc0 ++ ((es d).take (es d).length).filterMap (f d) := hJ
      show acc = (ds.take (i + 1)).flatMap fun d => (es d).filterMap (f d)
      have hI' : acc0 = (ds.take i).flatMap fun d => (es d).filterMap (f d) := hI
      rw [hJ', List.take_length, ht, List.flatMap_append, hI', List.flatMap_singleton]
  · have e : acc = (ds.take ds.length).flatMap fun d => (es d).filterMap (f d) := hI
    rw [e, List.take_length]
    exact c
end
end Z

set_option Elab.async false
set_option linter.all false
set_option maxRecDepth 100000
set_option maxHeartbeats 2000000
namespace Z
open PySem PySem.Spec PyProof.Rows L2
/-! ### enumerate of a list, a tuple, a text -/
theorem meets_enum1 {v : Value} {o : Obj} {Hs : Heap → Prop} (B : Begins v o Hs) :
    Meets (Builtin.«enumerate.__new__» ⟨[.type "enumerate", v], []⟩) (fun _ R s => Hs s.heap ∧
      R (.ok (.ret (.ref (s.heap.push o).objs.size))) { s with heap := (s.heap.push o).push { cls := .type "enumerate", data := .fields #[.none, .bool false, .ref s.heap.objs.size, rawInt 0, .none, .none] } }) :=
  .of_wp fun prog w A R s hh => by
    obtain ⟨hp, g, d, tk, os⟩ := s
    obtain ⟨hs, hr⟩ := hh
    have hsub := sub_enumerate
    have it : ∀ {A' : Around} {E : Value → Shared → Prop} {Q : Value → Shared → Prop}, Q (.ref hp.objs.size) ⟨hp.push o, g, d, tk, os⟩ → wpAny (model prog w) A' (pyIter v) Q E ⟨hp, g, d, tk, os⟩ :=
      fun q => B.iter prog w _ _ ⟨hp, g, d, tk, os⟩ _ hs q
    wp_walk using it
    refine wpAny_stack_any fun st => wpAny_pure ?_
    split
    · rename_i c _ _ _ _ _
      cases (c == Value.type "enumerate") <;> (wp_walk using it; exact ⟨_, rfl, hr⟩)
    · wp_walk using it
      exact ⟨_, rfl, hr⟩
theorem enum1_begins {prog : Program} {w : World} {A : Around} {E : Value → Shared → Prop} {s : Shared} {v : Value} {o : Obj} {Hs : Heap → Prop} {Q : Value → Shared → Prop} (B : Begins v o Hs) (h1 : Hs s.heap)
    (h : ∀ h', IsEnum h' (s.heap.objs.size + 1) s.heap.objs.size 0 .none → h'.get? s.heap.objs.size = some o → h'.objs.size = s.heap.objs.size + 2 → (∀ b o, s.heap.get? b = some o → h'.get? b = some o) → Q (.ref (s.heap.objs.size + 1)) { s with heap := h' }) :
    wpAny (model prog w) A (call (.type "enumerate") [v]) Q E s := by
  refine callType_new F.called_enumerate (by decide) (F.typeCall_enumerate_1 _) (F.newCall_enumerate_1 _) (fun obj => F.args_object_init_2 obj _) F.entry_enumerate_new (meets_enum1 B) ⟨h1, ?_⟩
  have sz : (s.heap.push o).objs.size = s.heap.objs.size + 1 := Heap.size_push ..
  show _ ∧ _
  rw [sz]
  have en : IsEnum ((s.heap.push o).push { cls := .type "enumerate", data := .fields #[.none, .bool false, .ref s.heap.objs.size, rawInt 0, .none, .none] }) (s.heap.objs.size + 1) s.heap.objs.size 0 .none := by
    have q := Heap.get?_push_size (s.heap.push o) (o := { cls := .type "enumerate", data := .fields #[.none, .bool false, .ref s.heap.objs.size, rawInt 0, .none, .none] }) rfl
    rw [sz] at q
    exact q
  exact ⟨⟨_, en, rfl⟩, h _ en (Heap.get?_push_of_some _ (Heap.get?_push_size _ B.free)) (by rw [Heap.size_push, sz]) fun b u x => Heap.get?_push_of_some _ (Heap.get?_push_of_some _ x)⟩
/-- what is asked of a walked value: where its iterator's own cell stands (Si), what stands by itself (Hs) -/
structure Src (P : Nat → Value → Prop) (n : Nat) (it : Addr) (fs : List Addr) (Si : Nat → Heap → Prop) (Hs : Heap → Prop) : Prop where
  dr : ∀ (prog : Program) (w : World) (A : Around), A.handled = none → Draws prog w A it (it :: fs) n P fun i h => Si i h ∧ Hs h
  keep : ∀ i h h', Si i h → (∀ o, h.get? it = some o → h'.get? it = some o) → Si i h'
  live : ∀ i h, Si i h → ∃ o, h.get? it = some o ∧ ∀ v, o.data ≠ .cell v
/-- an iterator of pairs over a value: at each turn the value is told again -/
structure ItE (K : PySem.W.Frag) (J : It) (it : Addr) (fs : List Addr) (Si : Nat → Heap → Prop) : Prop where
  go : ∀ (X : Cx), X.K = K → ∀ pins σ H s i, Inv X pins σ H s → J.go i H → ∃ P n Hs, Src P n it fs Si Hs ∧ i < n ∧ Hs s.heap ∧ ∀ u, P i u → ∃ x, RelV x u ∧ ∀ T, H T = none → J.yld i H (.ref T) (upd H T (.tup [.int (i : Int), x]))
  stop : ∀ (X : Cx), X.K = K → ∀ pins σ H s i, Inv X pins σ H s → J.stop i H → ∃ P Hs, Src P i it fs Si Hs ∧ Hs s.heap
  keep : ∀ i h h', Si i h → (∀ o, h.get? it = some o → h'.get? it = some o) → Si i h'
  live : ∀ i h, Si i h → ∃ o, h.get? it = some o ∧ ∀ v, o.data ≠ .cell v
theorem turn_enumG {P : Program} {w : World} {K : PySem.W.Frag} {elts : List Expr} {kk : Nat} {tpos : Pos} {J : It} {e it : Addr} {fs : List Addr} {Si : Nat → Heap → Prop} (Y : ItE K J it fs Si) (hei : e ≠ it) (hef : e ∉ fs) :
    Turn P w K (.Tuple elts kk tpos) J [e, it] e (fun i h => (∃ old, IsEnum h e it ((i : Nat) : Int) old) ∧ Si i h) where
  mem := by simp
  obj := fun i h st b hb => by
    obtain ⟨⟨old, he⟩, si⟩ := st
    rcases List.mem_cons.mp hb with z | z
    · subst z
      exact ⟨_, he, fun v q => nomatch q⟩
    · rw [List.mem_singleton.mp z]
      exact Y.live i h si
  keep := fun i h h' st k => let ⟨⟨old, he⟩, si⟩ := st; ⟨⟨old, k e (by simp) _ he⟩, Y.keep i h h' si fun o q => k it (by simp) o q⟩
  item := by
    intro X hP hw hK hc i pins s σ H E I hf st hg
    subst hP hw
    obtain ⟨⟨old, he⟩, si⟩ := st
    obtain ⟨Pi, n, Hs, S, hi, hs, hy⟩ := Y.go X hK pins σ H s i I hg
    have G := GoesN.enumFrom (elts := elts) (x1 := kk) (pos := tpos) 0 (S.dr X.prog X.w X.A.in1 (I.ok.hd hc)) e hei (by simp only [List.mem_cons, not_or]; exact ⟨hei, hef⟩) List.mem_cons_self
    have hel : e < s.heap.objs.size := Heap.lt_size he
    have hil : it < s.heap.objs.size := by obtain ⟨o, q, _⟩ := Y.live i _ si; exact Heap.lt_size q
    refine wpAny_mono (G.goes i s (fun u s2 => ∃ x H', Inv X pins σ H' s2 ∧ RelV x u ∧ J.yld i H x H' ∧ ((∃ old, IsEnum s2.heap e it ((i + 1 : Nat) : Int) old) ∧ Si (i + 1) s2.heap) ∧ ∀ b ∈ [e, it], H' b = none) E hi ⟨⟨old, by rw [Int.zero_add]; exact he⟩, si, hs⟩ fun v h' tk yv st' hk _ => ?_) (fun r s1 ⟨v, a, b⟩ => ⟨v, a, b⟩) fun _ _ z => z
    obtain ⟨T, t, u, rfl, hT, hp, hTup⟩ := yv
    obtain ⟨x, rx, hyld⟩ := hy u hp
    have fT : H T = none := I.hok.fresh hT
    have new : ObjOk X.prog X.w (upd H T (.tup [.int (i : Nat), x])) h' T (.tup [.int (i : Nat), x]) := by
      refine ⟨by show 2 ≤ sizeLine; decide, [.int (0 + (i : Int)) t, u], .cons ⟨t, by rw [Int.zero_add]⟩ (.cons rx .nil), hTup⟩
    have I1 : Inv X pins σ (upd H T (.tup [.int (i : Nat), x])) { s with heap := h', toks := tk } := I.turnedNew (ch := [e, it]) (fun b ob hb q => hk b ob hb q) hf hT new
    refine ⟨.ref T, _, I1, rfl, hyld T fT, ⟨?_, st'.2.1⟩, fun b hb => ?_⟩
    · obtain ⟨⟨old', q⟩, _⟩ := st'
      rw [Int.zero_add] at q
      exact ⟨old', q⟩
    · have hb' : b < s.heap.objs.size := by
        rcases List.mem_cons.mp hb with z | z
        · rw [z]; exact hel
        · rw [List.mem_singleton.mp z]; exact hil
      rw [upd_ne (Nat.ne_of_lt (Nat.lt_of_lt_of_le hb' hT))]
      exact (hf b hb).1
  done := by
    intro X hP hw hK hc i pins s σ H E I hf st hg
    subst hP hw
    obtain ⟨⟨old, he⟩, si⟩ := st
    obtain ⟨Pi, Hs, S, hs⟩ := Y.stop X hK pins σ H s i I hg
    have G := GoesN.enumFrom (elts := elts) (x1 := kk) (pos := tpos) 0 (S.dr X.prog X.w X.A.in1 (I.ok.hd hc)) e hei (by simp only [List.mem_cons, not_or]; exact ⟨hei, hef⟩) List.mem_cons_self
    exact G.stops s (fun s1 => Inv X pins σ H s1) E ⟨⟨old, by rw [Int.zero_add]; exact he⟩, si, hs⟩ fun h' tk hk _ => I.turnedL (ch := [e, it]) (fun b ob hb q => hk b ob hb q) hf
  self := fun A i s Q E st h => let ⟨⟨_, he⟩, _⟩ := st; wpAny_pyIter_enum he h

/-! the three kinds of sources -/
/-- a value that is walked: a list, a tuple, a text; xs its items -/
inductive Kd where
  | l (a : Addr) | t (a : Addr) | s (x : Str)
def Kd.v : Kd → V
  | .l a => .ref a
  | .t a => .ref a
  | .s x => .str x
/-- its items at H -/
def Kd.At (K : PySem.W.Frag) (H : Hp) (xs : List V) : Kd → Prop
  | .l a => SqL K H a xs
  | .t a => SqT K H a xs
  | .s x => xs = x.cps.toList.map fun c => V.str ⟨#[c]⟩
def Kd.fs : Kd → List Addr
  | .l a => [a]
  | .t a => [a]
  | .s _ => []
/-- its iterator's own cell at turn i -/
def Kd.Si (it : Addr) (k : Kd) (u : Value) (i : Nat) (h : Heap) : Prop := match k with
  | .l a => it ≠ a ∧ h.IsListIter it a i
  | .t a => it ≠ a ∧ h.IsTupleIter it a i
  | .s x => ∃ t, u = .str x t ∧ h.IsStrIter it (strIterType x) x t i
theorem kd_src {X : Cx} {pins : List (Addr × Obj)} {σ : L2.St} {H : Hp} {s : Shared} {xs : List V} (k : Kd) (u : Value) (ru : RelV k.v u) (it : Addr) (hne : ∀ a ∈ k.fs, it ≠ a) (I : Inv X pins σ H s) (h : k.At X.K H xs) :
    ∃ (P : Nat → Value → Prop) (Hs : Heap → Prop) (o : Obj), Begins u o Hs ∧ Hs s.heap ∧ (∀ h', h'.get? it = some o → k.Si it u 0 h') ∧ Src P xs.length it k.fs (k.Si it u) Hs ∧ ∀ i u, P i u → ∃ x, RelV x u ∧ xs[i]? = some x := by
  have hget : ∀ {its : List Value}, Vals xs its → ∀ (i : Nat) (u : Value), its.toArray[i]? = some u → ∃ x, RelV x u ∧ xs[i]? = some x := fun {its} rv i u e => by
    have hl := rv.length
    have e' : its[i]? = some u := by simpa using e
    have hi : i < xs.length := by rw [hl]; exact (List.getElem?_eq_some_iff.mp e').1
    obtain ⟨w, e2, r2⟩ := rv.get (List.getElem?_eq_getElem hi)
    rw [e'] at e2
    cases e2
    exact ⟨_, r2, List.getElem?_eq_getElem hi⟩
  cases k with
  | l a =>
    obtain rfl : u = Value.ref a := ru
    have hn : it ≠ a := hne a List.mem_cons_self
    obtain ⟨its, rv, p, hz⟩ := I.list h
    have hl : xs.length = its.toArray.size := by rw [List.size_toArray]; exact rv.length
    refine ⟨fun i u => its.toArray[i]? = some u, fun h => h.IsList a its.toArray, _, begins_list a its.toArray, p.isList, fun h' e => ⟨hn, _, e, rfl, rfl⟩, ?_, hget rv⟩
    rw [hl]
    refine ⟨fun prog w A hA => ?_, fun i h h' st hk => ⟨st.1, st.2.at fun o q => hk o q⟩, fun i h st => ?_⟩
    · have D := Draws.list (prog := prog) (w := w) hA it a (Ne.symm hn) its.toArray
      exact ⟨fun i h st => D.live i h ⟨st.1.2, st.2⟩, fun i h h' st hk => ⟨⟨st.1.1, (D.frame i h h' ⟨st.1.2, st.2⟩ hk).1⟩, (D.frame i h h' ⟨st.1.2, st.2⟩ hk).2⟩, fun i s Q E hi st q => D.item i s Q E hi ⟨st.1.2, st.2⟩ fun x h' tk p st' => q x h' tk p ⟨⟨hn, st'.1⟩, st'.2⟩, fun s Q E st q => D.done s Q E ⟨st.1.2, st.2⟩ q⟩
    · obtain ⟨_, o, ho, hc, hd⟩ := st
      exact ⟨o, ho, fun v q => by rw [hd] at q; cases q⟩
  | t a =>
    obtain rfl : u = Value.ref a := ru
    have hn : it ≠ a := hne a List.mem_cons_self
    obtain ⟨its, rv, p, hz⟩ := I.tuple h
    have hl : xs.length = its.toArray.size := by rw [List.size_toArray]; exact rv.length
    refine ⟨fun i u => its.toArray[i]? = some u, fun h => h.IsTuple a its.toArray, _, begins_tuple a its.toArray, p, fun h' e => ⟨hn, _, e, rfl, rfl⟩, ?_, hget rv⟩
    rw [hl]
    refine ⟨fun prog w A hA => ?_, fun i h h' st hk => ⟨st.1, st.2.at fun o q => hk o q⟩, fun i h st => ?_⟩
    · have D := Draws.tuple (prog := prog) (w := w) hA it a (Ne.symm hn) its.toArray
      exact ⟨fun i h st => D.live i h ⟨st.1.2, st.2⟩, fun i h h' st hk => ⟨⟨st.1.1, (D.frame i h h' ⟨st.1.2, st.2⟩ hk).1⟩, (D.frame i h h' ⟨st.1.2, st.2⟩ hk).2⟩, fun i s Q E hi st q => D.item i s Q E hi ⟨st.1.2, st.2⟩ fun x h' tk p st' => q x h' tk p ⟨⟨hn, st'.1⟩, st'.2⟩, fun s Q E st q => D.done s Q E ⟨st.1.2, st.2⟩ q⟩
    · obtain ⟨_, o, ho, hc, hd⟩ := st
      exact ⟨o, ho, fun v q => by rw [hd] at q; cases q⟩
  | s x =>
    obtain ⟨t, rfl⟩ := ru
    have hx : xs = x.cps.toList.map fun c => V.str ⟨#[c]⟩ := h
    have hl : xs.length = x.cps.size := by rw [hx, List.length_map, Array.length_toList]
    refine ⟨fun i v => ∃ c u, x.cps[i]? = some c ∧ v = .str ⟨#[c]⟩ u, fun _ => True, _, begins_text x t, trivial, fun h' e => ⟨t, rfl, _, e, rfl, rfl⟩, ?_, fun i u ⟨c, w, e, q⟩ => ?_⟩
    · rw [hl]
      refine ⟨fun prog w A hA => ?_, fun i h h' st hk => let ⟨t', a, b⟩ := st; let ⟨o, ho, hc, hd⟩ := b; ⟨t', a, o, hk o ho, hc, hd⟩, fun i h st => ?_⟩
      · have D := Draws.text (prog := prog) (w := w) hA it x t
        have of : ∀ {i h}, (Kd.s x).Si it (.str x t) i h → h.IsStrIter it (strIterType x) x t i := fun {i h} st => by
          obtain ⟨t', a, b⟩ := st
          cases a
          exact b
        exact ⟨fun i h st => D.live i h (of st.1), fun i h h' st hk => ⟨⟨t, rfl, D.frame i h h' (of st.1) hk⟩, trivial⟩, fun i s Q E hi st q => D.item i s Q E hi (of st.1) fun x h' tk p st' => q x h' tk p ⟨⟨t, rfl, st'⟩, trivial⟩, fun s Q E st q => D.done s Q E (of st.1) q⟩
      · obtain ⟨t', _, o, ho, hc, hd⟩ := st
        exact ⟨o, ho, fun v q => by rw [hd] at q; cases q⟩
    · subst q
      refine ⟨.str ⟨#[c]⟩, ⟨w, rfl⟩, ?_⟩
      rw [hx, List.getElem?_map, Array.getElem?_toList, e]
      rfl
end Z

set_option Elab.async false
set_option linter.all false
set_option maxRecDepth 100000
set_option maxHeartbeats 2000000
namespace Z
open PySem PySem.Spec PyProof.Rows L2
theorem Kd.lt {X : Cx} {pins : List (Addr × Obj)} {σ : L2.St} {H : Hp} {s : Shared} {xs : List V} (k : Kd) (I : Inv X pins σ H s) (h : k.At X.K H xs) : ∀ b ∈ k.fs, b < s.heap.objs.size := fun b hb => by
  cases k with
  | l a =>
    rw [List.mem_singleton.mp hb]
    obtain ⟨its, _, p, _⟩ := I.list h
    exact p.lt
  | t a =>
    rw [List.mem_singleton.mp hb]
    obtain ⟨its, _, p, _⟩ := I.tuple h
    exact p.lt
  | s x => cases hb
/-- pairs of a place and an item -/
def ItEk (K : PySem.W.Frag) (k : Kd) (xs : List V) : It :=
  ⟨fun i H => k.At K H xs ∧ i < xs.length, fun i H v H' => ∃ T x, v = .ref T ∧ H T = none ∧ H' = upd H T (.tup [.int (i : Int), x]) ∧ xs[i]? = some x, fun i H => k.At K H xs ∧ i = xs.length⟩
theorem itE_ok {K : PySem.W.Frag} (k : Kd) (u : Value) (ru : RelV k.v u) (xs : List V) (it : Addr) (hne : ∀ a ∈ k.fs, it ≠ a) : ItE K (ItEk K k xs) it k.fs (k.Si it u) where
  go := fun X hK pins σ H s i I hg => by
    subst hK
    obtain ⟨P, Hs, o, _, hs, _, S, get⟩ := kd_src k u ru it hne I hg.1
    refine ⟨P, xs.length, Hs, S, hg.2, hs, fun u p => ?_⟩
    obtain ⟨x, rx, e⟩ := get i u p
    exact ⟨x, rx, fun T hT => ⟨T, x, rfl, hT, rfl, e⟩⟩
  stop := fun X hK pins σ H s i I hg => by
    subst hK
    obtain ⟨P, Hs, o, _, hs, _, S, get⟩ := kd_src k u ru it hne I hg.1
    exact ⟨P, Hs, by rw [hg.2]; exact S, hs⟩
  keep := fun i h h' st hk => by
    cases k with
    | l a => exact ⟨st.1, st.2.at fun o q => hk o q⟩
    | t a => exact ⟨st.1, st.2.at fun o q => hk o q⟩
    | s x =>
      obtain ⟨t', a, o, ho, hc, hd⟩ := st
      exact ⟨t', a, o, hk o ho, hc, hd⟩
  live := fun i h st => by
    cases k with
    | l a =>
      obtain ⟨_, o, ho, hc, hd⟩ := st
      exact ⟨o, ho, fun v q => by rw [hd] at q; cases q⟩
    | t a =>
      obtain ⟨_, o, ho, hc, hd⟩ := st
      exact ⟨o, ho, fun v q => by rw [hd] at q; cases q⟩
    | s x =>
      obtain ⟨t', _, o, ho, hc, hd⟩ := st
      exact ⟨o, ho, fun v q => by rw [hd] at q; cases q⟩
def iEn (K : PySem.W.Frag) (ta : TA) : TI := fun σ H R => ta σ H fun vs H1 => ∃ (k : Kd) (xs : List V), vs = [k.v] ∧ k.At K H1 xs ∧ R (ItEk K k xs) H1
theorem pi_en {X : Cx} {e : Expr} {ta : TA} {p pos tpos : Pos} {elts : List Expr} {kk : Nat} (hg : Gl X "enumerate") (hm : X.mg "enumerate" = none) (ha : PA X [e] ta) (hs : starEach [e] X.env = [(false, eval e X.env)] := by rfl) :
    PI X (.Tuple elts kk tpos) (.Call (.Name "enumerate" p) [e] [] pos) (iEn X.K ta) := by
  refine ⟨fun pins s σ H R I h => ?_⟩
  refine Call_ (ld_blt I hg hm boot_enumerate (PyProof.Rows.callWith_type1 (thn (ha.run pos pins s σ H _ I h) fun us s1 ⟨vs, H1, I1, r1, q1⟩ => ?_) hs rfl))
  obtain ⟨k, xs, ex, hat, q⟩ := q1
  subst ex
  obtain ⟨u, rfl, r⟩ := Vals.one r1
  · skip
    have hne : ∀ a ∈ k.fs, s1.heap.objs.size ≠ a := fun a ha => Nat.ne_of_gt (k.lt I1 hat a ha)
    obtain ⟨P, Hs, o, B, hs', init, S, get⟩ := kd_src k u r s1.heap.objs.size hne I1 hat
    refine enum1_begins B hs' fun h' he hit hsz hk => wpAny_pyIter_enum he ?_
    have I2 : Inv X pins σ H1 { s1 with heap := h' } := I1.kept (t' := s1.toks) hk
    refine ⟨s1.heap.objs.size + 1, [s1.heap.objs.size + 1, s1.heap.objs.size], _, _, H1, rfl, I2, turn_enumG (itE_ok k u r xs s1.heap.objs.size hne) (Nat.succ_ne_self _) (fun hm => absurd (k.lt I1 hat _ hm) (Nat.not_lt.mpr (Nat.le_succ _))), ⟨⟨.none, he⟩, init h' hit⟩, fun b hb => ?_, q⟩
    have hle : s1.heap.objs.size ≤ b := by
      rcases List.mem_cons.mp hb with z | z
      · rw [z]
        exact Nat.le_succ _
      · rw [List.mem_singleton.mp z]
        exact Nat.le_refl _
    exact I1.fpOk hle (I1.hok.fresh hle)

/-! ### zip of two -/
def ItZk (K : PySem.W.Frag) (k k2 : Kd) (xs ys : List V) : It :=
  ⟨fun i H => k.At K H xs ∧ k2.At K H ys ∧ i < min xs.length ys.length, fun i H v H' => ∃ T x y, v = .ref T ∧ H T = none ∧ H' = upd H T (.tup [x, y]) ∧ xs[i]? = some x ∧ ys[i]? = some y, fun i H => k.At K H xs ∧ k2.At K H ys ∧ i = min xs.length ys.length⟩
theorem turn_zipG {P : Program} {w : World} {K : PySem.W.Frag} {elts : List Expr} {kk : Nat} {tpos : Pos} {k k2 : Kd} {xs ys : List V} {u u2 : Value} (ru : RelV k.v u) (ru2 : RelV k2.v u2) {z TI TO i1 i2 : Addr} (D : ZipSep2 z TI TO i1 i2 (i1 :: k.fs) (i2 :: k2.fs)) (n1 : ∀ a ∈ k.fs, i1 ≠ a) (n2 : ∀ a ∈ k2.fs, i2 ≠ a) :
    Turn P w K (.Tuple elts kk tpos) (ItZk K k k2 xs ys) [z, TI, TO, i1, i2] z (fun i h => IsZip h z TI TO .none ∧ IsTupOf2 h TI (.ref i1) (.ref i2) ∧ (∃ a1 a2, IsTupOf2 h TO a1 a2) ∧ k.Si i1 u i h ∧ k2.Si i2 u2 i h) where
  mem := by simp
  obj := fun i h st b hb => by
    obtain ⟨hz, h1, ⟨a1, a2, h2⟩, s1, s2⟩ := st
    have e' : b = z ∨ b = TI ∨ b = TO ∨ b = i1 ∨ b = i2 := by simpa using hb
    rcases e' with rfl | rfl | rfl | rfl | rfl
    · exact ⟨_, hz, fun v q => nomatch q⟩
    · exact ⟨_, h1, fun v q => nomatch q⟩
    · exact ⟨_, h2, fun v q => nomatch q⟩
    · exact (itE_ok (K := K) k u ru xs _ n1).live i h s1
    · exact (itE_ok (K := K) k2 u2 ru2 ys _ n2).live i h s2
  keep := fun i h h' st hk => by
    obtain ⟨hz, h1, ⟨a1, a2, h2⟩, s1, s2⟩ := st
    exact ⟨hk z (by simp) _ hz, hk TI (by simp) _ h1, ⟨a1, a2, hk TO (by simp) _ h2⟩, (itE_ok (K := K) k u ru xs _ n1).keep i h h' s1 fun o q => hk i1 (by simp) o q, (itE_ok (K := K) k2 u2 ru2 ys _ n2).keep i h h' s2 fun o q => hk i2 (by simp) o q⟩
  item := by
    intro X hP hw hK hc i pins s σ H E I hf st hg
    subst hP hw hK
    obtain ⟨hz, h1, h2, s1, s2⟩ := st
    obtain ⟨P1, Hs1, _, _, hs1, _, S1, get1⟩ := kd_src k u ru i1 n1 I hg.1
    obtain ⟨P2, Hs2, _, _, hs2, _, S2, get2⟩ := kd_src k2 u2 ru2 i2 n2 I hg.2.1
    have G := GoesN.zip2 (elts := elts) (x1 := kk) (pos := tpos) D (S1.dr X.prog X.w X.A.in1 (I.ok.hd hc)) (S2.dr X.prog X.w X.A.in1 (I.ok.hd hc))
    have lt : ∀ b ∈ [z, TI, TO, i1, i2], b < s.heap.objs.size := fun b hb => by
      have e' : b = z ∨ b = TI ∨ b = TO ∨ b = i1 ∨ b = i2 := by simpa using hb
      rcases e' with rfl | rfl | rfl | rfl | rfl
      · exact Heap.lt_size hz
      · exact Heap.lt_size h1
      · obtain ⟨_, _, q⟩ := h2
        exact Heap.lt_size q
      · obtain ⟨o, q, _⟩ := (itE_ok (K := X.K) k u ru xs _ n1).live i _ s1
        exact Heap.lt_size q
      · obtain ⟨o, q, _⟩ := (itE_ok (K := X.K) k2 u2 ru2 ys _ n2).live i _ s2
        exact Heap.lt_size q
    refine wpAny_mono (G.goes i s (fun u' s2 => ∃ x H', Inv X pins σ H' s2 ∧ RelV x u' ∧ (ItZk X.K k k2 xs ys).yld i H x H' ∧ (IsZip s2.heap z TI TO .none ∧ IsTupOf2 s2.heap TI (.ref i1) (.ref i2) ∧ (∃ a1 a2, IsTupOf2 s2.heap TO a1 a2) ∧ k.Si i1 u (i + 1) s2.heap ∧ k2.Si i2 u2 (i + 1) s2.heap) ∧ ∀ b ∈ [z, TI, TO, i1, i2], H' b = none) E hg.2.2 ⟨hz, h1, h2, ⟨s1, hs1⟩, ⟨s2, hs2⟩⟩ fun v h' tk yv st' hk _ => ?_) (fun r s1 ⟨v, a, b⟩ => ⟨v, a, b⟩) fun _ _ z => z
    obtain ⟨T, x', y', rfl, hT, hx, hy, hTup⟩ := yv
    obtain ⟨x, rx, ex⟩ := get1 i _ hx
    obtain ⟨y, ry, ey⟩ := get2 i _ hy
    have fT : H T = none := I.hok.fresh hT
    have new : ObjOk X.prog X.w (upd H T (.tup [x, y])) h' T (.tup [x, y]) := ⟨by show 2 ≤ sizeLine; decide, [x', y'], .cons rx (.cons ry .nil), hTup⟩
    have I1 : Inv X pins σ (upd H T (.tup [x, y])) { s with heap := h', toks := tk } := I.turnedNew (ch := [z, TI, TO, i1, i2]) (fun b ob hb q => hk b ob (fun hm => hb (by
      have e' : b = z ∨ b = TO ∨ b = i1 ∨ b = i2 := by simpa using hm
      rcases e' with e' | e' | e' | e' <;> simp [e'])) q) hf hT new
    refine ⟨.ref T, _, I1, rfl, ⟨T, x, y, rfl, fT, rfl, ex, ey⟩, ⟨st'.1, st'.2.1, st'.2.2.1, st'.2.2.2.1.1, st'.2.2.2.2.1⟩, fun b hb => ?_⟩
    rw [upd_ne (Nat.ne_of_lt (Nat.lt_of_lt_of_le (lt b hb) hT))]
    exact (hf b hb).1
  done := by
    intro X hP hw hK hc i pins s σ H E I hf st hg
    subst hP hw hK
    obtain ⟨hz, h1, h2, s1, s2⟩ := st
    obtain ⟨P1, Hs1, _, _, hs1, _, S1, get1⟩ := kd_src k u ru i1 n1 I hg.1
    obtain ⟨P2, Hs2, _, _, hs2, _, S2, get2⟩ := kd_src k2 u2 ru2 i2 n2 I hg.2.1
    have G := GoesN.zip2 (elts := elts) (x1 := kk) (pos := tpos) D (S1.dr X.prog X.w X.A.in1 (I.ok.hd hc)) (S2.dr X.prog X.w X.A.in1 (I.ok.hd hc))
    have ei := hg.2.2
    subst ei
    exact G.stops s (fun s1 => Inv X pins σ H s1) E ⟨hz, h1, h2, ⟨s1, hs1⟩, ⟨s2, hs2⟩⟩ fun h' tk hk _ => I.turnedL (ch := [z, TI, TO, i1, i2]) (fun b ob hb q => hk b ob (fun hm => hb (by
      have e' : b = z ∨ b = TO ∨ b = i1 ∨ b = i2 := by simpa using hm
      rcases e' with e' | e' | e' | e' <;> simp [e'])) q) hf
  self := fun A i s Q E st h => wpAny_pyIter_zip st.1 h
def iZp (K : PySem.W.Frag) (ta : TA) : TI := fun σ H R => ta σ H fun vs H1 => ∃ (k k2 : Kd) (xs ys : List V), vs = [k.v, k2.v] ∧ k.At K H1 xs ∧ k2.At K H1 ys ∧ R (ItZk K k k2 xs ys) H1
theorem pi_zp {X : Cx} {e e2 : Expr} {ta : TA} {p pos tpos : Pos} {elts : List Expr} {kk : Nat} (hg : Gl X "zip") (hm : X.mg "zip" = none) (ha : PA X [e, e2] ta)
    (hs : starEach [e, e2] X.env = (false, eval e X.env) :: starEach [e2] X.env := by rfl) (hpl : (backTo pos (starEach [e2] X.env)).any (·.1) = false := by rfl) :
    PI X (.Tuple elts kk tpos) (.Call (.Name "zip" p) [e, e2] [] pos) (iZp X.K ta) := by
  refine ⟨fun pins s σ H R I h => ?_⟩
  refine Call_ (ld_blt I hg hm PyProof.Rows.boot_zip (PyProof.Rows.callWith_type1 (thn (ha.run pos pins s σ H _ I h) fun us s1 ⟨vs, H1, I1, r1, q1⟩ => ?_) hs hpl))
  obtain ⟨k, k2, xs, ys, ex, hat, hat2, q⟩ := q1
  subst ex
  obtain ⟨u, u2, rfl, r, r2⟩ := Vals.two r1
  · · skip
      have ne1 : ∀ a ∈ k.fs, s1.heap.objs.size ≠ a := fun a ha => Nat.ne_of_gt (k.lt I1 hat a ha)
      have ne2 : ∀ a ∈ k2.fs, s1.heap.objs.size + 1 ≠ a := fun a ha => Nat.ne_of_gt (Nat.lt_succ_of_lt (k2.lt I1 hat2 a ha))
      obtain ⟨P, Hs, o, B, hs', init, S, get⟩ := kd_src k u r s1.heap.objs.size ne1 I1 hat
      obtain ⟨P2, Hs2, o2, B2, hs2', init2, S2, get2⟩ := kd_src k2 u2 r2 (s1.heap.objs.size + 1) ne2 I1 hat2
      refine zip_begins2 B B2 hs' hs2' fun h' hz hTI hTO g1 g2 hsz hk => wpAny_pyIter_zip hz ?_
      have I2 : Inv X pins σ H1 { s1 with heap := h' } := I1.kept (t' := s1.toks) hk
      refine ⟨s1.heap.objs.size + 4, [s1.heap.objs.size + 4, s1.heap.objs.size + 2, s1.heap.objs.size + 3, s1.heap.objs.size, s1.heap.objs.size + 1], _, _, H1, rfl, I2, turn_zipG (xs := xs) (ys := ys) r r2 (zip_sep2 (k.lt I1 hat) (k2.lt I1 hat2)) ne1 ne2, ⟨hz, hTI, ⟨_, _, hTO⟩, init h' g1, init2 h' g2⟩, fun c hcm => ?_, q⟩
      have e' : c = s1.heap.objs.size + 4 ∨ c = s1.heap.objs.size + 2 ∨ c = s1.heap.objs.size + 3 ∨ c = s1.heap.objs.size ∨ c = s1.heap.objs.size + 1 := by simpa using hcm
      have hle : s1.heap.objs.size ≤ c := by
        rcases e' with z | z | z | z | z <;> rw [z]
        · exact Nat.le_add_right _ _
        · exact Nat.le_add_right _ _
        · exact Nat.le_add_right _ _
        · exact Nat.le_refl _
        · exact Nat.le_add_right _ _
      exact I1.fpOk hle (I1.hok.fresh hle)
end Z

set_option Elab.async false
set_option linter.all false
set_option maxRecDepth 100000
set_option maxHeartbeats 2000000
namespace Z
open PySem PySem.Spec PyProof.Rows L2
/-! ### enumerate and zip over data -/
def enumD (ds : List PyData) : List PyData := ds.zipIdx.map fun p => .tuple [.int (p.2 : Int), p.1]
def zipD (ds es : List PyData) : List PyData := List.zipWith (fun a b => .tuple [a, b]) ds es
section
variable {C : Cz} {ε : Ev} {L : Led} {te : TE} {ta : TA} {q : List PyData → Led → Prop}
theorem kd_of {K : PySem.W.Frag} {H : Hp} {v : V} {r : Rs} {ds : List PyData} (h : RsOk K L H v r) (s : SeqOf r ds) : ∃ (k : Kd) (xs : List V), v = k.v ∧ (∀ H', Ext (hid L H) H' → k.At K H' xs) ∧ RpAll K (hid L H) xs ds := by
  cases s with
  | lst =>
    cases h with
    | @lst a xs _ e ha => exact ⟨.l a, xs, rfl, fun H' x => SqL.of (x _ _ e), ha⟩
  | tup =>
    cases h with
    | @tup a xs _ e ha => exact ⟨.t a, xs, rfl, fun H' x => ext_t x e, ha⟩
  | str x =>
    cases h
    exact ⟨.s x, _, rfl, fun H' _ => rfl, rpAll_map _ fun c _ => .str _⟩
  | scr ns =>
    obtain ⟨a, e, hs⟩ := h
    exact ⟨.l a, _, e, fun H' x => ext_l x hs, rpAll_ints ns⟩
theorem rsAll_1 {K : PySem.W.Frag} {H : Hp} {vs : List V} {r : Rs} (o : RsAll K L H vs [r]) : ∃ v, vs = [v] ∧ RsOk K L H v r := by
  cases o with
  | cons a b =>
    cases b
    exact ⟨_, rfl, a⟩
theorem rsAll_2 {K : PySem.W.Frag} {H : Hp} {vs : List V} {r s : Rs} (o : RsAll K L H vs [r, s]) : ∃ v w, vs = [v, w] ∧ RsOk K L H v r ∧ RsOk K L H w s := by
  cases o with
  | cons a b =>
    obtain ⟨w, rfl, c⟩ := rsAll_1 b
    exact ⟨_, w, rfl, a, c⟩
theorem ci_en {K : PySem.W.Frag} (h : CA C ta ε L fun rs L1 => ∃ r ds, rs = [r] ∧ SeqOf r ds ∧ q (enumD ds) L1) (hK : C.K = K := by rfl) : CI C (iEn K ta) ε L q := fun σ H R Rl X z => by
  subst hK
  refine h σ H _ Rl X fun vs rs L1 H1 g1 k1 R1 o1 ⟨r, ds, er, hs, hq⟩ => ?_
  subst er
  obtain ⟨v, rfl, o⟩ := rsAll_1 o1
  obtain ⟨k, xs, rfl, hat, hx⟩ := kd_of o hs
  refine ⟨k, xs, rfl, hat _ hid_sub, z _ _ L1 H1 g1 k1 R1 (fun L' H' g l i => ?_) hq⟩
  have e : Ext (hid L1 H1) H' := g.ext.trans hid_sub
  have hl := rpAll_len hx
  refine ⟨fun hi => ⟨hat _ e, ?_⟩, fun d hd => ?_⟩
  · unfold enumD at hi
    rw [List.length_map, List.length_zipIdx] at hi
    omega
  · unfold enumD at hd
    rw [List.getElem?_map, List.getElem?_zipIdx] at hd
    cases e1 : ds[i]? with
    | none =>
      rw [e1] at hd
      cases hd
    | some d1 =>
      rw [e1] at hd
      cases hd
      obtain ⟨v, e2, r2⟩ := rpAll_get hx e1
      refine ⟨⟨hat _ e, (List.getElem?_eq_some_iff.mp e2).1⟩, fun w H2 ⟨T, x, ew, hT, eH, ex⟩ => ?_⟩
      subst ew eH
      rw [e2] at ex
      cases ex
      have gn : Grow H' L' (upd H' T (.tup [.int (i : Int), v])) L' := grow_new hT
      refine ⟨gn, l.new hT, .tup (SqT.of (by rw [hid_out (l.fresh hT)]; exact upd_same)) (.cons ?_ (.cons (rp_mono (g.ext.trans gn.ext) r2) .nil))⟩
      have e3 : (((0 + i : Nat) : Int)) = (i : Int) := by omega
      show Rp _ _ _ (.int (((0 + i : Nat) : Int)))
      rw [e3]
      exact .int _
theorem ci_zp {K : PySem.W.Frag} (h : CA C ta ε L fun rs L1 => ∃ r s ds es, rs = [r, s] ∧ SeqOf r ds ∧ SeqOf s es ∧ q (zipD ds es) L1) (hK : C.K = K := by rfl) : CI C (iZp K ta) ε L q := fun σ H R Rl X z => by
  subst hK
  refine h σ H _ Rl X fun vs rs L1 H1 g1 k1 R1 o1 ⟨r, s, ds, es, er, hs, hs2, hq⟩ => ?_
  subst er
  obtain ⟨v, v2, rfl, o, o2⟩ := rsAll_2 o1
  obtain ⟨k, xs, rfl, hat, hx⟩ := kd_of o hs
  obtain ⟨k2, ys, rfl, hat2, hy⟩ := kd_of o2 hs2
  refine ⟨k, k2, xs, ys, rfl, hat _ hid_sub, hat2 _ hid_sub, z _ _ L1 H1 g1 k1 R1 (fun L' H' g l i => ?_) hq⟩
  have e : Ext (hid L1 H1) H' := g.ext.trans hid_sub
  have hl := rpAll_len hx
  have hl2 := rpAll_len hy
  refine ⟨fun hi => ⟨hat _ e, hat2 _ e, ?_⟩, fun d hd => ?_⟩
  · unfold zipD at hi
    rw [List.length_zipWith] at hi
    omega
  · unfold zipD at hd
    rw [List.getElem?_zipWith] at hd
    cases e1 : ds[i]? with
    | none =>
      rw [e1] at hd
      cases hd
    | some d1 =>
      cases e2 : es[i]? with
      | none =>
        rw [e1, e2] at hd
        cases hd
      | some d2 =>
        rw [e1, e2] at hd
        cases hd
        obtain ⟨v, e3, r3⟩ := rpAll_get hx e1
        obtain ⟨u, e4, r4⟩ := rpAll_get hy e2
        refine ⟨⟨hat _ e, hat2 _ e, ?_⟩, fun w H2 ⟨T, x, y, ew, hT, eH, ex, ey⟩ => ?_⟩
        · have := (List.getElem?_eq_some_iff.mp e3).1
          have := (List.getElem?_eq_some_iff.mp e4).1
          omega
        subst ew eH
        rw [e3] at ex
        cases ex
        rw [e4] at ey
        cases ey
        have gn : Grow H' L' (upd H' T (.tup [v, u])) L' := grow_new hT
        exact ⟨gn, l.new hT, .tup (SqT.of (by rw [hid_out (l.fresh hT)]; exact upd_same)) (.cons (rp_mono (g.ext.trans gn.ext) r3) (.cons (rp_mono (g.ext.trans gn.ext) r4) .nil))⟩
end

/-! ### operators -/
def rAddZ (K : PySem.W.Frag) : R2 := fun x y H Q => rI0 (fun i j => .int (i + j)) x y H Q ∨ (∃ i j, x = .str i ∧ y = .str j ∧ i.length + j.length ≤ sizeLine ∧ Q (.str (i ++ j)) H) ∨ rCat x y H Q ∨ rCatA K x y H Q
theorem op_addZ {X : Cx} : OpR X (binaryOp .Add) (rAddZ X.K) := op_add.or (op_add_str.or (op_cat.or op_catA))
def rMulZ (K : PySem.W.Frag) : R2 := fun x y H Q => rI CMul (fun i j => .int (i * j)) x y H Q ∨ rRep x y H Q ∨ rRepT K x y H Q
theorem op_mulZ {X : Cx} : OpR X (binaryOp .Mult) (rMulZ X.K) := op_mul.or (op_rep.or op_repT)
def rLtZ : R2 := fun x y H Q => rI0 (fun i j => .bl (decide (i < j))) x y H Q ∨ ∃ i j, x = .str i ∧ y = .str j ∧ Q (.bl (decide (i.cps.toList < j.cps.toList))) H
theorem op_ltZ {X : Cx} : OpR X (compareOp .Lt) rLtZ := op_lt.or op_lt_str
def rEqZ (K : PySem.W.Frag) : R2 := fun x y H Q => rEq x y H Q ∨ rEqD K x y H Q
theorem op_eqZ {X : Cx} (hu : X.A.units + 64 < cLine) : OpR X (compareOp .Eq) (rEqZ X.K) := op_eq.or (op_eqD hu)
def rNeZ (K : PySem.W.Frag) : R2 := fun x y H Q => rNe x y H Q ∨ rNeD K x y H Q
theorem op_neZ {X : Cx} (hu : X.A.units + 64 < cLine) : OpR X (compareOp .NotEq) (rNeZ X.K) := op_ne.or (op_neD hu)
def rInZ (K : PySem.W.Frag) : R2 := fun x y H Q => (∃ (c : Nat) (z : Str), x = .str ⟨#[c]⟩ ∧ y = .str z ∧ Q (.bl (decide (c ∈ z.cps.toList))) H) ∨ rIn K false x y H Q
theorem op_inZ {X : Cx} : OpR X (compareOp .In) (rInZ X.K) := op_in_sign.or op_in_seq
def rNotInZ (K : PySem.W.Frag) : R2 := fun x y H Q => (∃ (c : Nat) (z : Str), x = .str ⟨#[c]⟩ ∧ y = .str z ∧ Q (.bl (!decide (c ∈ z.cps.toList))) H) ∨ rIn K true x y H Q
theorem op_notInZ {X : Cx} : OpR X (compareOp .NotIn) (rNotInZ X.K) := op_notIn_sign.or op_notIn_seq
def rIsZ : R2 := fun x y H Q => (y = .non ∧ Q (.bl (decide (x = .non))) H) ∨ rIsB x y H Q
theorem op_isZ {X : Cx} : OpR X (compareOp .Is) rIsZ := op_isN.or op_isBl
def rIsNotZ : R2 := fun x y H Q => (y = .non ∧ Q (.bl (!decide (x = .non))) H) ∨ rNotB x y H Q
theorem op_isNotZ {X : Cx} : OpR X (compareOp .IsNot) rIsNotZ := op_notN.or op_notBl
section
variable {C : Cz} {L : Led} {k : Rs → Led → Prop} {K : PySem.W.Frag}
/-- a value of both operands, nothing made -/
theorem od_val {r : R2} {x y z : Rs} (h : ∀ v w H, LOk C.K L H → RsOk C.K L H v x → RsOk C.K L H w y → ∃ u, RsOk C.K L H u z ∧ ∀ Q : VK, Q u H → r v w H Q) (q : k z L) : OD C r x y L k := fun v w H Q l a b f => by
  obtain ⟨u, o, g⟩ := h v w H l a b
  exact g Q (f u z L H (Grow.refl H L) (Keeps.refl L) l o q)
theorem od_int {g : Int → Int → Int} {i j : Int} (q : k (.dat (.int (g i j))) L) : OD C (rI0 fun a b => .int (g a b)) (.dat (.int i)) (.dat (.int j)) L k := od_val (fun v w H l a b => by
  cases a
  cases b
  exact ⟨.int (g i j), .int _, fun Q f => ⟨i, j, rfl, rfl, f⟩⟩) q
theorem od_intC {c : Int → Int → Prop} {g : Int → Int → Int} {i j : Int} (hc : c i j) (q : k (.dat (.int (g i j))) L) : OD C (rI c fun a b => .int (g a b)) (.dat (.int i)) (.dat (.int j)) L k := od_val (fun v w H l a b => by
  cases a
  cases b
  exact ⟨.int (g i j), .int _, fun Q f => ⟨i, j, rfl, rfl, hc, f⟩⟩) q
theorem od_cmp {g : Int → Int → Bool} {i j : Int} (q : k (.dat (.bool (g i j))) L) : OD C (rI0 fun a b => .bl (g a b)) (.dat (.int i)) (.dat (.int j)) L k := od_val (fun v w H l a b => by
  cases a
  cases b
  exact ⟨.bl (g i j), .bl _, fun Q f => ⟨i, j, rfl, rfl, f⟩⟩) q
theorem od_or1 {r r' : R2} {x y : Rs} (h : OD C r x y L k) : OD C (fun a b H Q => r a b H Q ∨ r' a b H Q) x y L k := fun v w H Q l a b f => .inl (h v w H Q l a b f)
theorem od_or2 {r r' : R2} {x y : Rs} (h : OD C r' x y L k) : OD C (fun a b H Q => r a b H Q ∨ r' a b H Q) x y L k := fun v w H Q l a b f => .inr (h v w H Q l a b f)
theorem od_add_int {i j : Int} (q : k (.dat (.int (i + j))) L) : OD C (rAddZ K) (.dat (.int i)) (.dat (.int j)) L k := od_or1 (od_int (g := fun a b => a + b) q)
theorem od_add_str {i j : Str} (h : i.length + j.length ≤ sizeLine) (q : k (.dat (.str (i ++ j))) L) : OD C (rAddZ K) (.dat (.str i)) (.dat (.str j)) L k := od_or2 (od_or1 (od_val (fun v w H l a b => by
  cases a
  cases b
  exact ⟨.str (i ++ j), .str _, fun Q f => ⟨i, j, rfl, rfl, h, f⟩⟩) q))
theorem od_add_lst {ds es : List PyData} (h : ds.length + es.length ≤ sizeLine) (q : k (.dat (.list (ds ++ es))) L) : OD C (rAddZ K) (.dat (.list ds)) (.dat (.list es)) L k := fun v w H Q l a b f => .inr (.inr (.inl (by
  cases a with
  | @lst p xs _ e ha =>
    cases b with
    | @lst p2 ys _ e2 hb =>
      refine ⟨p, p2, xs, ys, rfl, rfl, hid_sub _ _ e, hid_sub _ _ e2, by rw [rpAll_len ha, rpAll_len hb]; exact h, fun z hz => ?_⟩
      have g : Grow H L (upd H z (.lst (xs ++ ys))) L := grow_new hz
      exact f _ (.dat (.list (ds ++ es))) L _ g (Keeps.refl L) (l.new hz) (.lst (by rw [hid_out (l.fresh hz)]; exact upd_same) (rpAll_mono g.ext (rpAll_app ha hb))) q)))
theorem od_add_tup {ds es : List PyData} (h : ds.length + es.length ≤ sizeLine) (q : k (.dat (.tuple (ds ++ es))) L) (hK : C.K = K := by rfl) : OD C (rAddZ K) (.dat (.tuple ds)) (.dat (.tuple es)) L k := fun v w H Q l a b f => .inr (.inr (.inr (by
  subst hK
  cases a with
  | @tup p xs _ e ha =>
    cases b with
    | @tup p2 ys _ e2 hb =>
      refine ⟨p, p2, xs, ys, rfl, rfl, ext_t hid_sub e, ext_t hid_sub e2, by rw [rpAll_len ha, rpAll_len hb]; exact h, fun hx => ?_, fun hx hy => ?_, fun hx hy z hz => ?_⟩
      · subst hx
        cases ha
        exact f _ (.dat (.tuple es)) L H (Grow.refl H L) (Keeps.refl L) l (.tup e2 hb) q
      · subst hy
        cases hb
        rw [List.append_nil] at q
        exact f _ (.dat (.tuple ds)) L H (Grow.refl H L) (Keeps.refl L) l (.tup e ha) q
      · have g : Grow H L (upd H z (.tup (xs ++ ys))) L := grow_new hz
        exact f _ (.dat (.tuple (ds ++ es))) L _ g (Keeps.refl L) (l.new hz) (.tup (SqT.of (by rw [hid_out (l.fresh hz)]; exact upd_same)) (rpAll_mono g.ext (rpAll_app ha hb))) q)))
theorem od_mul_int {i j : Int} (h : CMul i j) (q : k (.dat (.int (i * j))) L) : OD C (rMulZ K) (.dat (.int i)) (.dat (.int j)) L k := od_or1 (od_intC (g := fun a b => a * b) h q)
theorem rpAll_rep {H : Hp} {vs : List V} {ds : List PyData} (h : RpAll K H vs ds) : ∀ n : Nat, RpAll K H (List.replicate n vs).flatten (List.replicate n ds).flatten
  | 0 => .nil
  | n + 1 => by
    rw [List.replicate_succ, List.replicate_succ, List.flatten_cons, List.flatten_cons]
    exact rpAll_app h (rpAll_rep h n)
theorem od_mul_lst {ds : List PyData} {n : Int} (h : -(2 ^ 63) ≤ n ∧ n < 2 ^ 63 ∧ ds.length * n.toNat ≤ sizeLine) (q : k (.dat (.list (List.replicate n.toNat ds).flatten)) L) : OD C (rMulZ K) (.dat (.list ds)) (.dat (.int n)) L k := fun v w H Q l a b f => .inr (.inl (by
  cases a with
  | @lst p xs _ e ha =>
    cases b
    refine ⟨p, n, xs, rfl, rfl, hid_sub _ _ e, h.1, h.2.1, by rw [rpAll_len ha]; exact h.2.2, fun z hz => ?_⟩
    have g : Grow H L (upd H z (.lst (List.replicate n.toNat xs).flatten)) L := grow_new hz
    exact f _ (.dat (.list (List.replicate n.toNat ds).flatten)) L _ g (Keeps.refl L) (l.new hz) (.lst (by rw [hid_out (l.fresh hz)]; exact upd_same) (rpAll_mono g.ext (rpAll_rep ha _))) q))
theorem od_lt_int {i j : Int} (q : k (.dat (.bool (decide (i < j)))) L) : OD C rLtZ (.dat (.int i)) (.dat (.int j)) L k := od_or1 (od_cmp (g := fun a b => decide (a < b)) q)
theorem od_lt_str {i j : Str} (q : k (.dat (.bool (decide (i.cps.toList < j.cps.toList)))) L) : OD C rLtZ (.dat (.str i)) (.dat (.str j)) L k := od_or2 (od_val (fun v w H l a b => by
  cases a
  cases b
  exact ⟨.bl _, .bl _, fun Q f => ⟨i, j, rfl, rfl, f⟩⟩) q)
/-! equality -/
theorem od_eq_int {i j : Int} (q : k (.dat (.bool (i == j))) L) : OD C (rEqZ K) (.dat (.int i)) (.dat (.int j)) L k := od_or1 (od_val (fun v w H l a b => by
  cases a
  cases b
  exact ⟨.bl (i == j), .bl _, fun Q f => ⟨rfl, by rw [dec_int]; exact f⟩⟩) q)
theorem od_eq_str {i j : Str} (q : k (.dat (.bool (i == j))) L) : OD C (rEqZ K) (.dat (.str i)) (.dat (.str j)) L k := od_or1 (od_val (fun v w H l a b => by
  cases a
  cases b
  exact ⟨.bl (i == j), .bl _, fun Q f => ⟨rfl, by rw [dec_str]; exact f⟩⟩) q)
theorem od_eq_bool {i j : Bool} (q : k (.dat (.bool (i == j))) L) : OD C (rEqZ K) (.dat (.bool i)) (.dat (.bool j)) L k := od_or1 (od_val (fun v w H l a b => by
  cases a
  cases b
  exact ⟨.bl (i == j), .bl _, fun Q f => ⟨rfl, by rw [dec_bl]; exact f⟩⟩) q)
theorem od_ne_int {i j : Int} (q : k (.dat (.bool (!(i == j)))) L) : OD C (rNeZ K) (.dat (.int i)) (.dat (.int j)) L k := od_or1 (od_val (fun v w H l a b => by
  cases a
  cases b
  exact ⟨.bl (!(i == j)), .bl _, fun Q f => ⟨rfl, by rw [dec_int]; exact f⟩⟩) q)
theorem od_ne_str {i j : Str} (q : k (.dat (.bool (!(i == j)))) L) : OD C (rNeZ K) (.dat (.str i)) (.dat (.str j)) L k := od_or1 (od_val (fun v w H l a b => by
  cases a
  cases b
  exact ⟨.bl (!(i == j)), .bl _, fun Q f => ⟨rfl, by rw [dec_str]; exact f⟩⟩) q)
theorem od_ne_bool {i j : Bool} (q : k (.dat (.bool (!(i == j)))) L) : OD C (rNeZ K) (.dat (.bool i)) (.dat (.bool j)) L k := od_or1 (od_val (fun v w H l a b => by
  cases a
  cases b
  exact ⟨.bl (!(i == j)), .bl _, fun Q f => ⟨rfl, by rw [dec_bl]; exact f⟩⟩) q)
theorem od_eq_deep {d e : PyData} (h : SeqAt.shaped d = true ∧ SeqAt.shaped e = true ∧ flatD d = true ∧ flatD e = true) (q : k (.dat (.bool (PyData.eqv d e))) L) (hK : C.K = K := by rfl) : OD C (rEqZ K) (.dat d) (.dat e) L k := od_or2 (od_val (fun v w H l a b => by
  subst hK
  exact ⟨.bl _, .bl _, fun Q f => ⟨d, e, rp_dp (rp_mono hid_sub a) h.2.2.1, rp_dp (rp_mono hid_sub b) h.2.2.2, h.1, h.2.1, f⟩⟩) q)
theorem od_ne_deep {d e : PyData} (h : SeqAt.shaped d = true ∧ SeqAt.shaped e = true ∧ flatD d = true ∧ flatD e = true) (q : k (.dat (.bool (!PyData.eqv d e))) L) (hK : C.K = K := by rfl) : OD C (rNeZ K) (.dat d) (.dat e) L k := od_or2 (od_val (fun v w H l a b => by
  subst hK
  exact ⟨.bl _, .bl _, fun Q f => ⟨d, e, rp_dp (rp_mono hid_sub a) h.2.2.1, rp_dp (rp_mono hid_sub b) h.2.2.2, h.1, h.2.1, f⟩⟩) q)
/-! in -/
theorem od_in_sign {c : Nat} {z : Str} (q : k (.dat (.bool (decide (c ∈ z.cps.toList)))) L) : OD C (rInZ K) (.dat (.str ⟨#[c]⟩)) (.dat (.str z)) L k := od_or1 (od_val (fun v w H l a b => by
  cases a
  cases b
  exact ⟨.bl _, .bl _, fun Q f => ⟨c, z, rfl, rfl, f⟩⟩) q)
theorem od_notIn_sign {c : Nat} {z : Str} (q : k (.dat (.bool (!decide (c ∈ z.cps.toList)))) L) : OD C (rNotInZ K) (.dat (.str ⟨#[c]⟩)) (.dat (.str z)) L k := od_or1 (od_val (fun v w H l a b => by
  cases a
  cases b
  exact ⟨.bl _, .bl _, fun Q f => ⟨c, z, rfl, rfl, f⟩⟩) q)
theorem od_is_bool {i j : Bool} (q : k (.dat (.bool (decide (i = j)))) L) : OD C rIsZ (.dat (.bool i)) (.dat (.bool j)) L k := od_or2 (od_val (fun v w H l a b => by
  cases a
  cases b
  exact ⟨.bl _, .bl _, fun Q f => ⟨i, j, rfl, rfl, f⟩⟩) q)
theorem od_isNot_bool {i j : Bool} (q : k (.dat (.bool (!decide (i = j)))) L) : OD C rIsNotZ (.dat (.bool i)) (.dat (.bool j)) L k := od_or2 (od_val (fun v w H l a b => by
  cases a
  cases b
  exact ⟨.bl _, .bl _, fun Q f => ⟨i, j, rfl, rfl, f⟩⟩) q)
def isNoneD : PyData → Bool
  | .none => true
  | _ => false
theorem rp_none {H : Hp} {v : V} {d : PyData} (h : Rp K H v d) : decide (v = .non) = isNoneD d := by
  cases h <;> simp [isNoneD]
theorem od_is_none {d : PyData} (q : k (.dat (.bool (isNoneD d))) L) : OD C rIsZ (.dat d) (.dat .none) L k := od_or1 (od_val (fun v w H l a b => by
  cases b
  exact ⟨.bl _, .bl _, fun Q f => ⟨rfl, by rw [rp_none a]; exact f⟩⟩) q)
theorem od_isNot_none {d : PyData} (q : k (.dat (.bool (!isNoneD d))) L) : OD C rIsNotZ (.dat d) (.dat .none) L k := od_or1 (od_val (fun v w H l a b => by
  cases b
  exact ⟨.bl _, .bl _, fun Q f => ⟨rfl, by rw [rp_none a]; exact f⟩⟩) q)
/-! items -/
theorem atI_rp {H : Hp} {xs : List V} {ds : List PyData} {i : Int} {d : PyData} (h : RpAll K H xs ds) (e : atI ds i = some d) : ∃ v, atI xs i = some v ∧ Rp K H v d := by
  unfold atI at e ⊢
  rw [rpAll_len h]
  cases e1 : ixN ds.length i with
  | none =>
    rw [e1] at e
    cases e
  | some j =>
    rw [e1] at e
    obtain ⟨v, e2, r⟩ := rpAll_get h (show ds[j]? = some d from e)
    exact ⟨v, e2, r⟩
abbrev rIxZ (K : PySem.W.Frag) : R2 := rIx K
theorem od_ix_lst {ds : List PyData} {i : Int} {d : PyData} (e : atI ds i = some d) (q : k (.dat d) L) (hK : C.K = K := by rfl) : OD C (rIx K) (.dat (.list ds)) (.dat (.int i)) L k := by
  subst hK
  refine od_or1 (od_val (fun v w H l a b => ?_) q)
  cases a with
  | @lst p xs _ e2 ha =>
    cases b
    obtain ⟨v, e3, r⟩ := atI_rp ha e
    exact ⟨v, r, fun Q f => ⟨p, xs, i, v, rfl, rfl, SqL.of (hid_sub _ _ e2), e3, f⟩⟩
theorem od_ix_tup {ds : List PyData} {i : Int} {d : PyData} (e : atI ds i = some d) (q : k (.dat d) L) (hK : C.K = K := by rfl) : OD C (rIx K) (.dat (.tuple ds)) (.dat (.int i)) L k := by
  subst hK
  refine od_or2 (od_or1 (od_val (fun v w H l a b => ?_) q))
  cases a with
  | @tup p xs _ e2 ha =>
    cases b
    obtain ⟨v, e3, r⟩ := atI_rp ha e
    exact ⟨v, r, fun Q f => ⟨p, xs, i, v, rfl, rfl, ext_t hid_sub e2, e3, f⟩⟩
theorem od_ix_str {z : Str} {i : Int} {c : Nat} (h : z.length ≤ sizeLine) (e : atI z.cps.toList i = some c) (q : k (.dat (sgn c)) L) : OD C (rIx K) (.dat (.str z)) (.dat (.int i)) L k := od_or2 (od_or2 (od_val (fun v w H l a b => by
  cases a
  cases b
  exact ⟨.str ⟨#[c]⟩, .str _, fun Q f => ⟨z, i, c, rfl, rfl, h, e, f⟩⟩) q))
theorem od_mod {i j : Int} (h : 0 < j) (q : k (.dat (.int (i % j))) L) : OD C (rI (fun _ j => 0 < j) fun i j => .int (i % j)) (.dat (.int i)) (.dat (.int j)) L k := od_intC (c := fun _ j => 0 < j) (g := fun i j => i % j) h q
theorem od_sub {i j : Int} (q : k (.dat (.int (i - j))) L) : OD C (rI0 fun i j => .int (i - j)) (.dat (.int i)) (.dat (.int j)) L k := od_int (g := fun i j => i - j) q
end

/-! ### built-in functions by values -/
section
variable {C : Cz} {ε : Ev} {L : Led} {k : Rs → Led → Prop} {K : PySem.W.Frag} {te : TE} {ta : TA}
theorem cd_val {r : List V → Hp → VK → Prop} {xs : List Rs} {z : Rs} (h : ∀ vs H, LOk C.K L H → RsAll C.K L H vs xs → ∃ u, RsOk C.K L H u z ∧ ∀ Q : VK, Q u H → r vs H Q) (q : k z L) : CD C r xs L k := fun vs H Q l o f => by
  obtain ⟨u, a, b⟩ := h vs H l o
  exact b Q (f u z L H (Grow.refl H L) (Keeps.refl L) l a q)
/-- a new list of values -/
theorem cd_lst {r : List V → Hp → VK → Prop} {xs : List Rs} {ds : List PyData} (h : ∀ vs H, LOk C.K L H → RsAll C.K L H vs xs → ∃ us, RpAll C.K (hid L H) us ds ∧ ∀ Q : VK, (∀ p, H p = none → Q (.ref p) (upd H p (.lst us))) → r vs H Q) (q : k (.dat (.list ds)) L) : CD C r xs L k := fun vs H Q l o f => by
  obtain ⟨us, a, b⟩ := h vs H l o
  refine b Q fun p hp => ?_
  have g : Grow H L (upd H p (.lst us)) L := grow_new hp
  exact f _ (.dat (.list ds)) L _ g (Keeps.refl L) (l.new hp) (.lst (by rw [hid_out (l.fresh hp)]; exact upd_same) (rpAll_mono g.ext a)) q
theorem cd_or1 {r r' : List V → Hp → VK → Prop} {xs : List Rs} (h : CD C r xs L k) : CD C (fun a H Q => r a H Q ∨ r' a H Q) xs L k := fun v H Q l a f => .inl (h v H Q l a f)
theorem cd_or2 {r r' : List V → Hp → VK → Prop} {xs : List Rs} (h : CD C r' xs L k) : CD C (fun a H Q => r a H Q ∨ r' a H Q) xs L k := fun v H Q l a f => .inr (h v H Q l a f)
/-- len -/
def rLenZ (K : PySem.W.Frag) : List V → Hp → VK → Prop := fun xs H Q => ∃ x n, xs = [x] ∧ LenV K x H n ∧ Q (.int n) H
theorem call_lenZ {X : Cx} : CallR X (.builtin "len") (rLenZ X.K) := call_len
theorem cd_len_lst {ds : List PyData} (q : k (.dat (.int (ds.length : Int))) L) : CD C (rLenZ K) [.dat (.list ds)] L k := cd_val (fun vs H l o => by
  obtain ⟨v, rfl, o1⟩ := rsAll_1 o
  cases o1 with
  | @lst p xs _ e ha => exact ⟨.int _, .int _, fun Q f => ⟨.ref p, ds.length, rfl, .inl ⟨xs, SqL.of (hid_sub _ _ e), (rpAll_len ha).symm⟩, f⟩⟩) q
theorem cd_len_tup {ds : List PyData} (q : k (.dat (.int (ds.length : Int))) L) (hK : C.K = K := by rfl) : CD C (rLenZ K) [.dat (.tuple ds)] L k := by
  subst hK
  refine cd_val (fun vs H l o => ?_) q
  obtain ⟨v, rfl, o1⟩ := rsAll_1 o
  cases o1 with
  | @tup p xs _ e ha => exact ⟨.int _, .int _, fun Q f => ⟨.ref p, ds.length, rfl, .inr ⟨xs, ext_t hid_sub e, (rpAll_len ha).symm⟩, f⟩⟩
theorem cd_len_str {z : Str} (h : z.length ≤ sizeLine) (q : k (.dat (.int (z.length : Int))) L) : CD C (rLenZ K) [.dat (.str z)] L k := cd_val (fun vs H l o => by
  obtain ⟨v, rfl, o1⟩ := rsAll_1 o
  cases o1
  exact ⟨.int _, .int _, fun Q f => ⟨.str z, z.length, rfl, ⟨h, rfl⟩, f⟩⟩) q
/-- int -/
def rIntZ : List V → Hp → VK → Prop := fun xs H Q => ((∃ i, xs = [.int i] ∧ Q (.int i) H) ∨ ∃ b, xs = [.bl b] ∧ Q (.int (if b then 1 else 0)) H) ∨ ∃ a n, xs = [.str a] ∧ PySem.intText? a = some n ∧ a.length ≤ 640 ∧ Q (.int n) H
theorem call_intZ {X : Cx} : CallR X (.type "int") rIntZ := call_int1.or call_int_str
theorem cd_int_int {i : Int} (q : k (.dat (.int i)) L) : CD C rIntZ [.dat (.int i)] L k := cd_or1 (cd_or1 (cd_val (fun vs H l o => by
  obtain ⟨v, rfl, o1⟩ := rsAll_1 o
  cases o1
  exact ⟨.int i, .int i, fun Q f => ⟨i, rfl, f⟩⟩) q))
theorem cd_int_bool {b : Bool} (q : k (.dat (.int (if b then 1 else 0))) L) : CD C rIntZ [.dat (.bool b)] L k := cd_or1 (cd_or2 (cd_val (fun vs H l o => by
  obtain ⟨v, rfl, o1⟩ := rsAll_1 o
  cases o1
  exact ⟨.int (if b then 1 else 0), .int _, fun Q f => ⟨b, rfl, f⟩⟩) q))
theorem cd_int_str {a : Str} {n : Int} (h : PySem.intText? a = some n ∧ a.length ≤ 640) (q : k (.dat (.int n)) L) : CD C rIntZ [.dat (.str a)] L k := cd_or2 (cd_val (fun vs H l o => by
  obtain ⟨v, rfl, o1⟩ := rsAll_1 o
  cases o1
  exact ⟨.int n, .int n, fun Q f => ⟨a, n, rfl, h.1, h.2, f⟩⟩) q)
/-- all, any, sum -/
theorem cd_all {bs : List Bool} (q : k (.dat (.bool (bs.all id))) L) : CD C (rAll K) [.dat (.list (bs.map PyData.bool))] L k := cd_val (fun vs H l o => by
  obtain ⟨v, rfl, o1⟩ := rsAll_1 o
  cases o1 with
  | @lst p xs _ e ha =>
    have ex := bools_of ha
    subst ex
    exact ⟨.bl _, .bl _, fun Q f => ⟨p, bs, rfl, SqL.of (hid_sub _ _ e), f⟩⟩) q
theorem cd_any {bs : List Bool} (q : k (.dat (.bool (bs.any id))) L) : CD C (rAny K) [.dat (.list (bs.map PyData.bool))] L k := cd_val (fun vs H l o => by
  obtain ⟨v, rfl, o1⟩ := rsAll_1 o
  cases o1 with
  | @lst p xs _ e ha =>
    have ex := bools_of ha
    subst ex
    exact ⟨.bl _, .bl _, fun Q f => ⟨p, bs, rfl, SqL.of (hid_sub _ _ e), f⟩⟩) q
theorem cd_sum {ns : List Int} (q : k (.dat (.int ns.sum)) L) : CD C (rSum K) [.dat (.list (ns.map PyData.int))] L k := cd_val (fun vs H l o => by
  obtain ⟨v, rfl, o1⟩ := rsAll_1 o
  cases o1 with
  | @lst p xs _ e ha =>
    have ex := ints_of ha
    subst ex
    exact ⟨.int _, .int _, fun Q f => ⟨p, ns, rfl, SqL.of (hid_sub _ _ e), f⟩⟩) q
theorem cd_abs {i : Int} (q : k (.dat (.int (if i < 0 then -i else i))) L) : CD C (fun xs H Q => ∃ i, xs = [.int i] ∧ Q (.int (if i < 0 then -i else i)) H) [.dat (.int i)] L k := cd_val (fun vs H l o => by
  obtain ⟨v, rfl, o1⟩ := rsAll_1 o
  cases o1
  exact ⟨.int _, .int _, fun Q f => ⟨i, rfl, f⟩⟩) q
/-! isinstance -/
def tyN : PyData → String
  | .none => "NoneType"
  | .bool _ => "bool"
  | .int _ => "int"
  | .str _ => "str"
  | .list _ => "list"
  | .tuple _ => "tuple"
  | .dict _ => "dict"
def isD (d : PyData) (c : String) : Bool := tyN d == c || (tyN d == "bool" && c == "int")
theorem sqT_ty {H : Hp} {a : Addr} {xs : List V} (h : SqT K H a xs) : TyX K H (.ref a) (.type "tuple") := by
  rcases h with (h | ⟨o, h⟩) | ⟨o, its, n, h1, h2, _⟩
  · exact .base (.tup h)
  · exact .fTuple h
  · exact .kTuple h1 h2
theorem rp_ty {H : Hp} {v : V} {d : PyData} (h : Rp K H v d) : TyX K H v (.type (tyN d)) := by
  cases h with
  | non => exact .base .non
  | bl b => exact .base (.bl b)
  | int i => exact .base (.int i)
  | str x => exact .base (.str x)
  | lst e _ => exact .base (.lst e)
  | tup e _ => exact sqT_ty e
  | dct e _ => exact .base (.dK e)
def okTy : List String := ["str", "int", "bool", "list", "tuple", "dict"]
theorem kit_all : (["NoneType", "bool", "int", "str", "list", "tuple", "dict"].all fun a => ["str", "int", "bool", "list", "tuple", "dict"].all fun c => kitB a c == some (a == c || (a == "bool" && c == "int"))) = true := by decide +kernel
theorem tyN_in (d : PyData) : tyN d ∈ ["NoneType", "bool", "int", "str", "list", "tuple", "dict"] := by
  cases d <;> simp [tyN]
theorem kit_d {d : PyData} {c : String} (h : c ∈ okTy) : PySem.W.kitOne K (.type (tyN d)) (.type c) = some (isD d c) := by
  refine kit_ty ?_
  have q := List.all_eq_true.mp (List.all_eq_true.mp kit_all _ (tyN_in d)) c h
  exact beq_iff_eq.mp q
theorem cd_isi {d : PyData} {c : String} (h : c ∈ okTy) (q : k (.dat (.bool (isD d c))) L) (hK : C.K = K := by rfl) : CD C (rIsi K) [.dat d, .raw (.ty c)] L k := by
  subst hK
  refine cd_val (fun vs H l o => ?_) q
  obtain ⟨v, w, rfl, o1, o2⟩ := rsAll_2 o
  have e : w = .ty c := o2
  subst e
  exact ⟨.bl _, .bl _, fun Q f => ⟨v, .ty c, .type (tyN d), .type c, isD d c, rfl, .ty c, rp_ty (rp_mono hid_sub o1), kit_d h, f⟩⟩
end

/-! ### methods -/
section
variable {C : Cz} {ε : Ev} {L : Led} {k : Rs → Led → Prop} {K : PySem.W.Frag} {te : TE} {ta : TA}
/-- a built-in's method by values -/
def MD (C : Cz) (r : V → List V → Hp → VK → Prop) (x : Rs) (xs : List Rs) (L : Led) (k : Rs → Led → Prop) : Prop :=
  ∀ (v : V) (vs : List V) (H : Hp) (Q : VK), LOk C.K L H → RsOk C.K L H v x → RsAll C.K L H vs xs → (∀ z s L' H', Grow H L H' L' → Keeps L L' → LOk C.K L' H' → RsOk C.K L' H' z s → k s L' → Q z H') → r v vs H Q
def rsTy (L : Led) : Rs → String → Prop
  | .dat d, T => tyN d = T ∧ (T = "str" ∨ T = "list" ∨ T = "dict")
  | .own a, T => ∃ m, (a, m) ∈ L ∧ m.ty = T
  | _, _ => False
theorem rs_tyV {H : Hp} {v : V} {x : Rs} {T : String} (l : LOk K L H) (h : RsOk K L H v x) (t : rsTy L x T) : tyV K T v H := by
  cases x with
  | dat d =>
    obtain ⟨t1, t2⟩ := t
    have h' : Rp K H v d := rp_mono hid_sub h
    cases h' with
    | non => rw [← t1] at t2; simp [tyN] at t2
    | bl b => rw [← t1] at t2; simp [tyN] at t2
    | int i => rw [← t1] at t2; simp [tyN] at t2
    | str x => subst t1; exact rfl
    | lst e _ => subst t1; exact .inl ⟨rfl, _, SqL.of e⟩
    | tup e _ => rw [← t1] at t2; simp [tyN] at t2
    | dct e _ => subst t1; exact .inr (.inr (.inl ⟨rfl, .inl ⟨_, e⟩⟩))
  | own a =>
    obtain ⟨rfl, ha⟩ := h
    obtain ⟨m, hm, rfl⟩ := t
    have q := l.at_ _ hm
    cases m with
    | drw =>
      obtain ⟨ns, e⟩ := q
      exact .inl ⟨rfl, _, SqL.of e⟩
    | lst ds =>
      obtain ⟨xs, e, _⟩ := q
      exact .inl ⟨rfl, _, SqL.of e⟩
    | dct kvs =>
      obtain ⟨xs, e, _⟩ := q
      exact .inr (.inr (.inl ⟨rfl, .inl ⟨_, e⟩⟩))
  | raw w => cases t
  | scr ns => cases t
theorem cp_bm {T : String} {r : V → List V → Hp → VK → Prop} (h : CP C te ε L fun x L1 => rsTy L1 x T ∧ CA C ta ε L1 fun xs L2 => MD C r x xs L2 k) (hK : C.K = K := by rfl) : CP C (tBM K T r te ta) ε L k := fun σ H Q R X z => by
  subst hK
  refine h σ H _ R X fun v x L1 H1 g1 k1 R1 o1 ⟨t, h1⟩ => ⟨rs_tyV R1.led o1 t, h1 σ H1 _ R1 (X.grow g1) fun vs xs L2 H2 g2 k2 R2 o2 q => ?_⟩
  exact q v vs H2 Q R2.led (o1.grow g2 k2) o2 fun u s L3 H3 g3 k3 l3 o3 q => z u s L3 H3 ((g1.trans g2).trans g3) ((k1.trans k2).trans k3) (R2.grow g3 k3 l3) o3 q
theorem cp_bm0 {T : String} {r : V → List V → Hp → VK → Prop} (h : CP C te ε L fun x L1 => rsTy L1 x T ∧ MD C r x [] L1 k) (hK : C.K = K := by rfl) : CP C (tBM0 K T r te) ε L k := fun σ H Q R X z => by
  subst hK
  refine h σ H _ R X fun v x L1 H1 g1 k1 R1 o1 ⟨t, q⟩ => ⟨rs_tyV R1.led o1 t, ?_⟩
  exact q v [] H1 Q R1.led o1 .nil fun u s L3 H3 g3 k3 l3 o3 q => z u s L3 H3 (g1.trans g3) (k1.trans k3) (R1.grow g3 k3 l3) o3 q
end
end Z

set_option Elab.async false
set_option linter.all false
set_option maxRecDepth 100000
set_option maxHeartbeats 2000000
/-! list(reversed(xs)) of a list -/
namespace ZRev
open PySem PySem.W PySem.Calls PyProof.Rows PySem.Spec
variable {prog : Program} {w : World} {A : Around} {E : Value → Shared → Prop}
theorem ext_rev {s : Shared} {R : Result → Shared → Prop} {it l : Addr} {items : Array Value} (hh : A.handled = none) (hit : s.heap.IsRevIter it l ((items.size : Int) - 1)) (hl : s.heap.IsList l items) (hne : l ≠ it) (hn : items.size ≤ sizeLine)
    (S : Addr) (hSi : S ≠ it) (hSl : S ≠ l) (res : Value) (c₀ : Nat) (hS : s.heap.get? S = some { cls := .type "list", data := .seq #[] c₀ })
    (hR : ∀ h' tk acc c, (∀ b o, b ≠ S → b ≠ it → s.heap.get? b = some o → h'.get? b = some o) → h'.get? S = some { cls := .type "list", dict := none, data := .seq acc c, slots := #[] } →
      ItemsOf (fun i v => items[items.size - 1 - i]? = some v) acc items.size → R (.ok (.ret res)) { s with heap := h', toks := tk }) :
    wpAny (model prog w) A.in1 (Builtin.List.listExtendWith (.ref S) (.ref it) res)
      (fun fin s' => match fin with
        | .done f => R (.ok f) s'
        | .again c' => c'.quiet = true ∧ codeAny (model prog w) A c' R s') (fun e s' => R (.error e) s') s := by
  have Wk := (Walks.listRev (prog := prog) (w := w) (A := A.in1) hh it l hne items).toS
  have nf : S ∉ [it, l] := by
    simp only [List.mem_cons, List.not_mem_nil, or_false, not_or]
    exact ⟨hSi, hSl⟩
  have tI : s.TypeIs (.ref it) "list_reverseiterator" := hit.typeIs
  have same : Builtin.List.listSameRef (.ref S) (.ref it) = false := by simp [Builtin.List.listSameRef, hSi]
  unfold Builtin.List.listExtendWith
  refine wpAny_bind (wpAny_typeOf tI ?_)
  rw [if_neg (by rw [same]; decide)]
  refine wpAny_bind (wpAny_pyIter_revIter hit ?_)
  refine wpAny_bind (wpAny_holding ?_)
  unfold Builtin.List.listLengthHint
  refine wpAny_bind (wpAny_specialOf tI RT.nolen_lri ?_)
  show wpAny _ A.in1 (specialOf (Value.ref it) (Str.ofString "__length_hint__") >>= _) _ _ _
  refine wpAny_bind (wpAny_specialOf tI RT.hint_lri ?_)
  generalize hd : ("list_reverseiterator.__length_hint__" : String) = nm
  wp_delta
  rw [show splitId nm = some ("list_reverseiterator", "__length_hint__") from by subst hd; decide +kernel]
  subst hd
  refine wpAny_bind (wpAny_isInstance (b := true) tI (by rw [isSubtype_type]; kernel_rfl) ?_)
  refine wpAny_pure ?_
  rw [if_neg (by decide)]
  have e0 : ((items.size : Nat) : Int) - 1 - ((0 : Nat) : Int) = (items.size : Int) - 1 := by omega
  refine wpAny_pure ⟨plainId_quiet F.plain_extend_loop _, codeAny_extend_loopS Wk hn S nf res items.size 0 _ #[] c₀ rfl (Nat.zero_le _) ⟨Nat.zero_le _, by rw [e0]; exact hit, hl⟩ hS (ItemsOf.nil _) fun s' acc c hm hS' hacc => ?_⟩
  rw [Moved.eq_with hm]
  refine hR s'.heap s'.toks acc c (fun b o hb hb2 e => hm.heap b o (fun hmem => ?_) e) hS' hacc
  rcases List.mem_cons.mp hmem with z | z
  · exact hb z
  · exact hb2 (List.mem_singleton.mp z)
theorem init_rev {s : Shared} {R : Result → Shared → Prop} {it l : Addr} {items : Array Value} (hh : A.handled = none) (hit : s.heap.IsRevIter it l ((items.size : Int) - 1)) (hl : s.heap.IsList l items) (hne : l ≠ it) (hn : items.size ≤ sizeLine)
    (S : Addr) (hSi : S ≠ it) (hSl : S ≠ l) (hS : s.heap.get? S = some { cls := .type "list", data := .seq #[] })
    (hR : ∀ h' tk acc c, (∀ b o, b ≠ S → b ≠ it → s.heap.get? b = some o → h'.get? b = some o) → h'.get? S = some { cls := .type "list", dict := none, data := .seq acc c, slots := #[] } →
      ItemsOf (fun i v => items[items.size - 1 - i]? = some v) acc items.size → R (.ok (.ret .none)) { s with heap := h', toks := tk }) :
    wpAny (model prog w) A.in1 (Builtin.«list.__init__» ⟨[.ref S, .ref it], []⟩)
      (fun fin s' => match fin with
        | .done f => R (.ok f) s'
        | .again c' => c'.quiet = true ∧ codeAny (model prog w) A c' R s') (fun e s' => R (.error e) s') s := by
  show wpAny _ _ (Builtin.List.listItems (.ref S) >>= fun old => Builtin.List.listUpdate (.ref S) (fun _ => #[]) >>= fun _ => letGo old.toList.reverse >>= fun _ => Builtin.List.listExtendWith (.ref S) (.ref it) .none) _ _ s
  refine wpAny_bind ?_
  unfold Builtin.List.listItems
  refine wpAny_bind (wpAny_seqItems hS rfl (wpAny_pure ?_))
  show wpAny _ _ (updateSeq S (fun _ => #[]) >>= fun _ => letGo (#[] : Array Value).toList.reverse >>= fun _ => Builtin.List.listExtendWith (.ref S) (.ref it) .none) _ _ s
  refine wpAny_bind (wpAny_updateSeq hS rfl ?_)
  have hS2 := Heap.get?_update_self (Obj.mapSeq (fun _ => (#[] : Array Value))) hS rfl
  have oth : ∀ b o, b ≠ S → s.heap.get? b = some o → (s.heap.update S (Obj.mapSeq (fun _ => (#[] : Array Value)))).get? b = some o := fun b o hb e => (Heap.get?_update_other _ _ (Ne.symm hb)).trans e
  refine wpAny_bind (wpAny_letGo ?_)
  exact ext_rev hh (hit.at fun o e => oth it o (Ne.symm hSi) e) (hl.at fun o e => oth l o (Ne.symm hSl) e) hne hn S hSi hSl .none _ hS2 fun h' tk acc c hk hS' hacc => hR h' tk acc c (fun b o hb hb2 e => hk b o hb hb2 (oth b o hb e)) hS' hacc
theorem call_list_rev {s : Shared} {it l : Addr} {items : Array Value} {Q : Value → Shared → Prop} (hh : A.handled = none) (hit : s.heap.IsRevIter it l ((items.size : Int) - 1)) (hl : s.heap.IsList l items) (hne : l ≠ it) (hn : items.size ≤ sizeLine)
    (hQ : ∀ h' tk acc c, (∀ b o, b ≠ it → s.heap.get? b = some o → h'.get? b = some o) → h'.get? s.heap.objs.size = some { cls := .type "list", dict := none, data := .seq acc c, slots := #[] } →
      ItemsOf (fun i v => items[items.size - 1 - i]? = some v) acc items.size → Q (.ref s.heap.objs.size) { s with heap := h', toks := tk }) :
    wpAny (model prog w) A (call (.type "list") [.ref it]) Q E s := by
  obtain ⟨oi, hoi, _⟩ := id hit
  obtain ⟨ol, hol, _⟩ := id hl
  refine callType_codes (Q₁ := fun obj s₁ => obj = .ref s.heap.objs.size ∧ s₁ = { s with heap := s.heap.push { cls := .type "list", data := .seq #[] } }) PySem.F.called_list (PySem.F.typeCall_list_1 _) PySem.F.entry_list_init (code_list_new _ ⟨rfl, rfl⟩) fun obj s₁ h₁ => ?_
  obtain ⟨rfl, rfl⟩ := h₁
  have hS : (s.heap.push { cls := .type "list", data := .seq #[] }).get? s.heap.objs.size = some { cls := .type "list", data := .seq #[] } := Heap.get?_push_size _ rfl
  refine ⟨⟨_, hS, rfl⟩, PySem.F.args_list_init_2 _ _, init_rev (A := A.in1) hh (hit.at fun o e => Heap.get?_push_of_some _ e) (hl.at fun o e => Heap.get?_push_of_some _ e) hne hn _ (Nat.ne_of_gt (Heap.lt_size hoi)) (Nat.ne_of_gt (Heap.lt_size hol)) hS fun h' tk acc c hk hS' hacc => ?_⟩
  exact ⟨rfl, hQ h' tk acc c (fun b o hb e => hk b o (Nat.ne_of_lt (Heap.lt_size e)) hb (Heap.get?_push_of_some _ e)) hS' hacc⟩
end ZRev
namespace Z
open PySem PySem.Spec PyProof.Rows L2
def tLRev (K : PySem.W.Frag) (te : TE) : TE := fun σ H Q => te σ H fun v H1 => ∃ (a : Addr) (xs : List V), v = .ref a ∧ SqL K H1 a xs ∧ ∀ q, H1 q = none → Q (.ref q) (upd H1 q (.lst xs.reverse))
theorem pe_lrev {X : Cx} {e : Expr} {te : TE} {p p2 pos pos2 : Pos} (hc : X.calm = true) (hg : Gl X "list") (hm : X.mg "list" = none) (hg2 : Gl X "reversed") (hm2 : X.mg "reversed" = none) (he : PE X e te)
    (hs : starEach [e] X.env = (false, eval e X.env) :: starEach [] X.env := by rfl)
    (hs2 : starEach [.Call (.Name "reversed" p2) [e] [] pos2] X.env = (false, eval (.Call (.Name "reversed" p2) [e] [] pos2) X.env) :: starEach [] X.env := by rfl) :
    PE X (.Call (.Name "list" p) [.Call (.Name "reversed" p2) [e] [] pos2] [] pos) (tLRev X.K te) := by
  refine ⟨fun pins s σ H Q I h => ?_⟩
  refine Call_ (ld_blt I hg hm boot_list (PyProof.Rows.callWith_type1 (args_cons (Call_ (ld_blt I hg2 hm2 PyProof.Rows.boot_reversed (PyProof.Rows.callWith_type1 (args_cons (thn (he.run pins s σ H _ I h) fun u s1 ⟨v, H1, I1, r1, q1⟩ => args_nil ?_) hs) hs rfl))) hs2) hs2 rfl))
  obtain ⟨a, xs, ev, hq, q⟩ := q1
  subst ev
  obtain rfl : u = Value.ref a := r1
  obtain ⟨its, rv, p', hz⟩ := I1.list hq
  refine call_reversed_list p'.isList (args_nil ?_)
  have I2 : Inv X pins σ H1 { s1 with heap := s1.heap.push (revObj a ((its.toArray.size : Int) - 1)) } := I1.kept (t' := s1.toks) fun b o e => Heap.get?_push_of_some _ e
  obtain ⟨f0, f1, f2, f3, f4, f5⟩ := I1.fpOk (H' := H1) (b := s1.heap.objs.size) (Nat.le_refl _) (I1.hok.fresh (Nat.le_refl _))
  have hl := p'.isList
  obtain ⟨ol, hol, _⟩ := id hl
  have hne : a ≠ s1.heap.objs.size := Nat.ne_of_lt (Heap.lt_size hol)
  have hn : its.toArray.size ≤ sizeLine := by rw [List.size_toArray, ← rv.length]; exact hz
  have hsz : (s1.heap.push (revObj a ((its.toArray.size : Int) - 1))).objs.size = s1.heap.objs.size + 1 := Heap.size_push ..
  refine ZRev.call_list_rev (s := { s1 with heap := s1.heap.push (revObj a ((its.toArray.size : Int) - 1)) }) (I1.ok.hd hc) ⟨_, Heap.get?_push_size _ rfl, rfl, rfl⟩ (hl.push _) hne hn fun h' tk acc c hk hS hi => ?_
  -- the new list stands behind the iterator's cell
  have hfree : H1 (s1.heap.objs.size + 1) = none := I1.hok.fresh (Nat.le_succ _)
  show EP X pins σ Q (.ref (s1.heap.push (revObj a ((its.toArray.size : Int) - 1))).objs.size) { s1 with heap := h', toks := tk }
  rw [hsz]
  rw [show ({ s1 with heap := s1.heap.push (revObj a ((its.toArray.size : Int) - 1)) } : Shared).heap.objs.size = s1.heap.objs.size + 1 from hsz] at hS
  refine ⟨.ref (s1.heap.objs.size + 1), upd H1 (s1.heap.objs.size + 1) (.lst xs.reverse), ?_, rfl, q _ hfree⟩
  refine I2.turnedNew (ch := [s1.heap.objs.size]) (fun b ob hb e => hk b ob (fun z => hb (by rw [z]; exact List.mem_cons_self)) e) (fun b hb => ?_) (by show (s1.heap.push _).objs.size ≤ _; rw [hsz]; exact Nat.le_refl _) ?_
  · rw [List.mem_singleton.mp hb]
    exact ⟨f0, f1, f2, f3, f4, f5⟩
  · exact ⟨by rw [List.length_reverse]; exact hz, acc.toList, c, RT.vals_rev rv hi, by rw [Array.toArray_toList]; exact hS⟩
end Z

set_option linter.all false
namespace Z
open PySem
theorem occ_one (x : Str) (c : Nat) : (Builtin.Str.occurrences x ⟨#[c]⟩ 0 x.length (x.length + 1)).length = x.cps.toList.count c := by
  have key : ∀ (n i fr : Nat) (found : Array Nat), found.size ≤ i → fr ≤ i → i + n = x.length + 1 →
      (forIn (List.range' i n) (found, fr) (StrLaws.occBody x ⟨#[c]⟩ x.length (x.length + 1))).run.fst.size = found.size + (x.cps.toList.drop i).count c := by
    intro n
    induction n with
    | zero =>
      intro i fr found hf hfr hi
      have e : x.cps.toList.drop i = [] := List.drop_eq_nil_of_le (by rw [Array.length_toList]; show x.length ≤ i; omega)
      rw [e]
      rfl
    | succ n ih =>
      intro i fr found hf hfr hi
      rw [List.range'_succ, List.forIn_cons]
      have hlen : (⟨#[c]⟩ : Str).length = 1 := rfl
      have hsub : Builtin.Str.subAt x ⟨#[c]⟩ i = ((x.cps.toList.drop i).take 1 == [c]) := StrLaws.subAt_eq x ⟨#[c]⟩ i
      by_cases hx : i < x.length
      · have hx' : i < x.cps.toList.length := by rw [Array.length_toList]; exact hx
        have ed : x.cps.toList.drop i = x.cps.toList[i] :: x.cps.toList.drop (i + 1) := List.drop_eq_getElem_cons hx'
        rw [ed] at hsub ⊢
        by_cases hc : x.cps.toList[i] = c
        · have hs : Builtin.Str.subAt x ⟨#[c]⟩ i = true := by rw [hsub, hc]; simp
          have hb : StrLaws.occBody x ⟨#[c]⟩ x.length (x.length + 1) i (found, fr) = pure (ForInStep.yield (found.push i, i + 1)) := by
            unfold StrLaws.occBody
            rw [if_pos ⟨⟨⟨by show found.size < _; omega, hfr⟩, by rw [hlen]; omega⟩, hs⟩]
            rfl
          rw [hb]
          show (forIn (List.range' (i + 1) n) (found.push i, i + 1) (StrLaws.occBody x ⟨#[c]⟩ x.length (x.length + 1))).run.fst.size = _
          rw [ih (i + 1) (i + 1) (found.push i) (by rw [Array.size_push]; omega) (Nat.le_refl _) (by omega), Array.size_push, List.count_cons, hc]
          simp
          omega
        · have hs : Builtin.Str.subAt x ⟨#[c]⟩ i = false := by rw [hsub, List.take_succ_cons, List.take_zero]; exact beq_eq_false_iff_ne.mpr (fun z => hc (List.cons.inj z).1)
          have hb : StrLaws.occBody x ⟨#[c]⟩ x.length (x.length + 1) i (found, fr) = pure (ForInStep.yield (found, fr)) := by
            unfold StrLaws.occBody
            rw [if_neg (by rw [hs]; simp)]
          rw [hb]
          show (forIn (List.range' (i + 1) n) (found, fr) (StrLaws.occBody x ⟨#[c]⟩ x.length (x.length + 1))).run.fst.size = _
          rw [ih (i + 1) fr found (by omega) (by omega) (by omega), List.count_cons, if_neg (fun z => hc (beq_iff_eq.mp z))]
          rfl
      · have e : x.cps.toList.drop i = [] := List.drop_eq_nil_of_le (by rw [Array.length_toList]; show x.length ≤ i; omega)
        have hb : StrLaws.occBody x ⟨#[c]⟩ x.length (x.length + 1) i (found, fr) = pure (ForInStep.yield (found, fr)) := by
          unfold StrLaws.occBody
          rw [if_neg (fun h => by have := h.1.2; rw [hlen] at this; omega)]
        rw [hb]
        show (forIn (List.range' (i + 1) n) (found, fr) (StrLaws.occBody x ⟨#[c]⟩ x.length (x.length + 1))).run.fst.size = _
        have hn : n = 0 := by omega
        subst hn
        rw [e]
        rfl
  rw [StrLaws.occ_eq, Array.length_toList]
  have q := key (x.length + 1) 0 0 #[] (Nat.zero_le _) (Nat.zero_le _) (by omega)
  simpa using q
end Z

set_option Elab.async false
set_option linter.all false
set_option maxRecDepth 100000
set_option maxHeartbeats 2000000
namespace Z
open PySem PySem.Spec PyProof.Rows L2
def natD (n : Nat) : PyData := .int (n : Int)
/-- the content at a is written anew -/
def up (L : Led) (a : Addr) (m : Mo) : Led := L.map fun p => if p.1 = a then (a, m) else p
theorem up_ks (L : Led) (a : Addr) (m : Mo) : (up L a m).ks = L.ks := by
  unfold up Led.ks
  rw [List.map_map]
  refine List.map_congr_left fun p _ => ?_
  show (if p.1 = a then (a, m) else p).1 = p.1
  by_cases h : p.1 = a
  · rw [if_pos h, h]
  · rw [if_neg h]
theorem up_plus {L : Led} {p : Addr} {a b : List PyData} (h : p ∉ L.ks) : up (plus L p a) p (.lst b) = plus L p b := by
  unfold up plus
  rw [List.map_append]
  congr 1
  · refine (List.map_congr_left fun q hq => ?_).trans (List.map_id L)
    have hn : q.1 ≠ p := fun z => h (by rw [← z]; exact List.mem_map.mpr ⟨q, hq, rfl⟩)
    rw [if_neg hn]
    rfl
  · simp
theorem mem_up {L : Led} {a : Addr} {m : Mo} (h : a ∈ L.ks) : (a, m) ∈ up L a m := by
  obtain ⟨p, hp, e⟩ := List.mem_map.mp h
  exact List.mem_map.mpr ⟨p, hp, if_pos e⟩
theorem mem_up_ne {L : Led} {a b : Addr} {m m' : Mo} (h : (b, m') ∈ L) (n : b ≠ a) : (b, m') ∈ up L a m := List.mem_map.mpr ⟨_, h, if_neg n⟩
theorem grow_up {H : Hp} {L : Led} {a : Addr} {m : Mo} {o : HO} (h : a ∈ L.ks) : Grow H L (upd H a o) (up L a m) :=
  ⟨fun b u e n => by rw [upd_ne (fun z : b = a => n (by rw [z]; exact h))]; exact e, fun b hb => .inl (by rw [← up_ks L a m]; exact hb)⟩
theorem keeps_up {L : Led} {a : Addr} {m : Mo} : Keeps L (up L a m) := fun x h => by rw [up_ks]; exact h
theorem LOk.uniq {K : PySem.W.Frag} {L : Led} {H : Hp} (l : LOk K L H) {a : Addr} {m m' : Mo} (h : (a, m) ∈ L) (h' : (a, m') ∈ L) : m = m' := by
  have nd := l.nd
  clear l
  unfold Led.ks at nd
  induction L with
  | nil => cases h
  | cons p r ih =>
    rw [List.map_cons, List.nodup_cons] at nd
    rcases List.mem_cons.mp h with e | h1
    · rcases List.mem_cons.mp h' with e' | h2
      · rw [← e] at e'
        exact (Prod.mk.inj e').2.symm
      · exact absurd (List.mem_map.mpr ⟨_, h2, by rw [← e]⟩) nd.1
    · rcases List.mem_cons.mp h' with e' | h2
      · exact absurd (List.mem_map.mpr ⟨_, h1, by rw [← e']⟩) nd.1
      · exact ih h1 h2 nd.2
theorem LOk.up {K : PySem.W.Frag} {L : Led} {H : Hp} {a : Addr} {ys : List V} {ds : List PyData} (l : LOk K L H) (h : a ∈ L.ks) (r : RpAll K (hid L H) ys ds) : LOk K (up L a (.lst ds)) (upd H a (.lst ys)) := by
  have ex : Ext (hid L H) (hid (Z.up L a (.lst ds)) (upd H a (.lst ys))) := (grow_up h).ext
  refine ⟨by rw [up_ks]; exact l.nd, fun p hp => ?_⟩
  obtain ⟨q, hq, e⟩ := List.mem_map.mp hp
  by_cases z : q.1 = a
  · rw [if_pos z] at e
    subst e
    exact ⟨ys, upd_same, rpAll_mono ex r⟩
  · rw [if_neg z] at e
    subst e
    have w := l.at_ q hq
    obtain ⟨b, m⟩ := q
    cases m with
    | drw =>
      obtain ⟨ns, w⟩ := w
      exact ⟨ns, by rw [upd_ne z]; exact w⟩
    | lst es =>
      obtain ⟨zs, w, y⟩ := w
      exact ⟨zs, by rw [upd_ne z]; exact w, rpAll_mono ex y⟩
    | dct es =>
      obtain ⟨zs, w, y⟩ := w
      exact ⟨zs, by rw [upd_ne z]; exact w, rpKv_mono ex y⟩
section
variable {C : Cz} {ε : Ev} {L : Led} {k : Rs → Led → Prop} {K : PySem.W.Frag} {te : TE} {ta : TA} {P : Post} {t : TS}
/-! ### lists that are written -/
theorem md_append {a : Addr} {ds : List PyData} {d : PyData} (m : (a, .lst ds) ∈ L) (hz : ds.length < sizeLine) (q : k (.dat .none) (up L a (.lst (ds ++ [d])))) : MD C rAppend (.own a) [.dat d] L k := fun v vs H Q l o1 o2 f => by
  obtain ⟨rfl, ha⟩ := o1
  obtain ⟨w, rfl, o⟩ := rsAll_1 o2
  obtain ⟨xs, ex, hx⟩ := l.isLst m
  exact ⟨a, xs, w, rfl, rfl, ex, by rw [rpAll_len hx]; exact hz, f _ (.dat .none) _ _ (grow_up ha) keeps_up (l.up ha (rpAll_app hx (rpAll_one o))) .non q⟩
theorem md_pop {a : Addr} {ds : List PyData} {d : PyData} (m : (a, .lst ds) ∈ L) (e : ds[ds.length - 1]? = some d) (q : k (.dat d) (up L a (.lst ds.dropLast))) : MD C rPop (.own a) [] L k := fun v vs H Q l o1 o2 f => by
  obtain ⟨rfl, ha⟩ := o1
  cases o2
  obtain ⟨xs, ex, hx⟩ := l.isLst m
  have hl := rpAll_len hx
  obtain ⟨w, ew, rw'⟩ := rpAll_get hx e
  have g : Grow H L (upd H a (.lst xs.dropLast)) (up L a (.lst ds.dropLast)) := grow_up ha
  have hd : RpAll C.K (hid L H) xs.dropLast ds.dropLast := by
    rw [List.dropLast_eq_take, List.dropLast_eq_take, hl]
    exact rpAll_take _ hx
  exact ⟨a, xs, w, rfl, rfl, ex, by rw [hl]; exact ew, f _ (.dat d) _ _ g keeps_up (l.up ha hd) (rp_mono g.ext rw') q⟩
theorem md_reverse {a : Addr} {ds : List PyData} (m : (a, .lst ds) ∈ L) (q : k (.dat .none) (up L a (.lst ds.reverse))) : MD C rReverse (.own a) [] L k := fun v vs H Q l o1 o2 f => by
  obtain ⟨rfl, ha⟩ := o1
  cases o2
  obtain ⟨xs, ex, hx⟩ := l.isLst m
  exact ⟨a, xs, rfl, rfl, ex, f _ (.dat .none) _ _ (grow_up ha) keeps_up (l.up ha (rpAll_rev hx)) .non q⟩
theorem md_extend {a : Addr} {ds es : List PyData} (m : (a, .lst ds) ∈ L) (hz : ds.length + es.length ≤ sizeLine) (q : k (.dat .none) (up L a (.lst (ds ++ es)))) : MD C rExtend (.own a) [.dat (.list es)] L k := fun v vs H Q l o1 o2 f => by
  obtain ⟨rfl, ha⟩ := o1
  obtain ⟨w, rfl, o⟩ := rsAll_1 o2
  obtain ⟨xs, ex, hx⟩ := l.isLst m
  cases o with
  | @lst b zs _ e hy => exact ⟨a, b, xs, zs, rfl, rfl, ex, hid_sub _ _ e, by rw [rpAll_len hx, rpAll_len hy]; exact hz, f _ (.dat .none) _ _ (grow_up ha) keeps_up (l.up ha (rpAll_app hx hy)) .non q⟩
/-- xs[i] = e -/
theorem hs_setL {to ti : TE} (h : CP C te ε L fun r L1 => ∃ d, r = .dat d ∧ CP C to ε L1 fun x L2 => ∃ a, x = .own a ∧ CP C ti ε L2 fun y L3 => ∃ (ds : List PyData) (i : Int) (j : Nat), y = .dat (.int i) ∧ (a, .lst ds) ∈ L3 ∧ ixN ds.length i = some j ∧ P.nx ε (up L3 a (.lst (ds.set j d)))) :
    HS C (tAsg te (gSub to ti rSetL)) ε L P := fun σ H D R X E =>
  h σ H _ R X fun v r L1 H1 g1 k1 R1 o1 ⟨d, er, h1⟩ => h1 σ H1 _ R1 (X.grow g1) fun w x L2 H2 g2 k2 R2 o2 ⟨a, ex, h2⟩ => h2 σ H2 _ R2 ((X.grow g1).grow g2) fun u y L3 H3 g3 k3 R3 o3 ⟨ds, i, j, ey, m, ej, q⟩ => by
    subst er ex ey
    obtain ⟨rfl, _⟩ := o2
    cases o3
    obtain ⟨xs, exs, hx⟩ := R3.led.isLst m
    have ha : a ∈ L3.ks := Led.key m
    have g : Grow H3 L3 (upd H3 a (.lst (xs.set j v))) (up L3 a (.lst (ds.set j d))) := grow_up ha
    have od : Rp C.K (hid L3 H3) v d := rp_mono (g2.trans g3).ext o1
    exact ⟨a, xs, i, j, rfl, rfl, exs, by rw [rpAll_len hx]; exact ej, E.nx ε _ σ _ (((g1.trans g2).trans g3).trans g) (R3.grow g keeps_up (R3.led.up ha (rpAll_set od j hx))) q⟩
/-! an owned list is read -/
theorem cd_len_own {a : Addr} {ds : List PyData} (m : (a, .lst ds) ∈ L) (q : k (.dat (.int (ds.length : Int))) L) : CD C (rLenZ K) [.own a] L k := cd_val (fun vs H l o => by
  obtain ⟨v, rfl, o1⟩ := rsAll_1 o
  obtain ⟨rfl, ha⟩ := o1
  obtain ⟨xs, ex, hx⟩ := l.isLst m
  exact ⟨.int _, .int _, fun Q f => ⟨.ref a, ds.length, rfl, .inl ⟨xs, SqL.of ex, (rpAll_len hx).symm⟩, f⟩⟩) q
theorem od_ix_own {a : Addr} {ds : List PyData} {i : Int} {d : PyData} (m : (a, .lst ds) ∈ L) (e : atI ds i = some d) (q : k (.dat d) L) (hK : C.K = K := by rfl) : OD C (rIx K) (.own a) (.dat (.int i)) L k := by
  subst hK
  refine od_or1 (od_val (fun v w H l o1 o2 => ?_) q)
  obtain ⟨rfl, ha⟩ := o1
  cases o2
  obtain ⟨xs, ex, hx⟩ := l.isLst m
  obtain ⟨v, e3, r⟩ := atI_rp hx e
  exact ⟨v, r, fun Q f => ⟨a, xs, i, v, rfl, rfl, SqL.of ex, e3, f⟩⟩
/-- list(reversed(xs)) -/
theorem cp_lrev {a : Addr} {ds : List PyData} (h : CP C te ε L fun r L1 => r = .own a ∧ (a, .lst ds) ∈ L1 ∧ ∀ p, p ∉ L1.ks → k (.own p) (plus L1 p ds.reverse)) (hK : C.K = K := by rfl) : CP C (tLRev K te) ε L k := fun σ H Q R X z => by
  subst hK
  refine h σ H _ R X fun v r L1 H1 g1 k1 R1 o1 ⟨er, m, q⟩ => ?_
  subst er
  obtain ⟨rfl, ha⟩ := o1
  obtain ⟨xs, ex, hx⟩ := R1.led.isLst m
  refine ⟨a, xs, rfl, SqL.of ex, fun p hp => ?_⟩
  have g2 : Grow H1 L1 (upd H1 p (.lst xs.reverse)) (plus L1 p ds.reverse) := grow_own hp
  exact z _ (.own p) _ _ (g1.trans g2) (k1.trans keeps_own) (R1.grow g2 keeps_own (R1.led.own hp (rpAll_rev hx))) ⟨rfl, Led.key (List.mem_append_right _ List.mem_cons_self)⟩ (q p (R1.led.fresh hp))

/-! ### texts -/
theorem md_count1 {x : Str} {c : Nat} (q : k (.dat (.int (x.cps.toList.count c : Nat))) L) : MD C (fun x xs H Q => ∃ a b, x = .str a ∧ xs = [.str b] ∧ Q (.int (Txt.count a b)) H) (.dat (.str x)) [.dat (.str ⟨#[c]⟩)] L k := fun v vs H Q l o1 o2 f => by
  cases o1
  obtain ⟨w, rfl, o⟩ := rsAll_1 o2
  cases o
  refine ⟨x, ⟨#[c]⟩, rfl, rfl, f _ (.dat (.int (x.cps.toList.count c : Nat))) L H (Grow.refl H L) (Keeps.refl L) l ?_ q⟩
  have e : Txt.count x ⟨#[c]⟩ = (x.cps.toList.count c : Nat) := by
    unfold Txt.count
    rw [occ_one]
  rw [e]
  exact .int _
abbrev rJoinZ (K : PySem.W.Frag) : V → List V → Hp → VK → Prop := fun x xs H Q => ∃ a p, ∃ ys : List Str, x = .str a ∧ xs = [.ref p] ∧ (SqL K H p (ys.map V.str) ∨ SqT K H p (ys.map V.str)) ∧ (ys.map (·.length)).sum + ys.length * a.length ≤ 16777216 ∧ Q (.str (Txt.join a ys)) H
theorem md_join {a : Str} {ys : List Str} (hz : (ys.map (·.length)).sum + ys.length * a.length ≤ 16777216) (q : k (.dat (.str (Txt.join a ys))) L) : MD C (rJoinZ K) (.dat (.str a)) [.dat (.list (ys.map PyData.str))] L k := fun v vs H Q l o1 o2 f => by
  cases o1
  obtain ⟨w, rfl, o⟩ := rsAll_1 o2
  cases o with
  | @lst p xs _ e hx =>
    have ex := strs_of hx
    subst ex
    exact ⟨a, p, ys, rfl, rfl, .inl (SqL.of (hid_sub _ _ e)), hz, f _ (.dat (.str (Txt.join a ys))) L H (Grow.refl H L) (Keeps.refl L) l (.str _) q⟩
theorem md_joinO {a : Str} {p : Addr} {ys : List Str} (m : (p, .lst (ys.map PyData.str)) ∈ L) (hz : (ys.map (·.length)).sum + ys.length * a.length ≤ 16777216) (q : k (.dat (.str (Txt.join a ys))) L) : MD C (rJoinZ K) (.dat (.str a)) [.own p] L k := fun v vs H Q l o1 o2 f => by
  cases o1
  obtain ⟨w, rfl, o⟩ := rsAll_1 o2
  obtain ⟨rfl, ha⟩ := o
  obtain ⟨xs, ex, hx⟩ := l.isLst m
  have e2 := strs_of hx
  subst e2
  exact ⟨a, p, ys, rfl, rfl, .inl (SqL.of ex), hz, f _ (.dat (.str (Txt.join a ys))) L H (Grow.refl H L) (Keeps.refl L) l (.str _) q⟩
end
/-! text * int -/
def rRepS : R2 := fun x y H Q => ∃ (a : Str) (n : Int), x = .str a ∧ y = .int n ∧ (a.length ≤ 16 ∧ -(2 ^ 63) ≤ n ∧ n ≤ 1048576) ∧ Q (.str (Txt.mul a n)) H
theorem op_repS {X : Cx} : OpR X (binaryOp .Mult) rRepS := by
  intro pins s σ H x y v u Q I rx ry h
  obtain ⟨a, n, rfl, rfl, hz, q⟩ := h
  obtain ⟨t, rfl⟩ := rx
  obtain ⟨t', rfl⟩ := ry
  exact SB.mul (mulOk_of 16 1048576 hz.1 hz.2.2 hz.2.1 (by decide) (by decide)) fun t' k => ⟨.str _, H, I.tok _, ⟨_, rfl⟩, q⟩
def rMulY (K : PySem.W.Frag) : R2 := fun x y H Q => rMulZ K x y H Q ∨ rRepS x y H Q
theorem op_mulY {X : Cx} : OpR X (binaryOp .Mult) (rMulY X.K) := op_mulZ.or op_repS
/-! list.count of texts -/
def rCntS (K : PySem.W.Frag) : V → List V → Hp → VK → Prop := fun x xs H Q => ∃ (p : Addr) (ys : List Str) (z : Str), x = .ref p ∧ xs = [.str z] ∧ SqL K H p (ys.map V.str) ∧ Q (.int (ys.count z : Nat)) H
theorem countIn_strs (z : Str) : ∀ ys : List Str, PySem.Spec.countIn (.str z) (ys.map PyData.str) = (ys.count z : Nat)
  | [] => rfl
  | y :: r => by
    rw [List.map_cons, List.count_cons]
    unfold PySem.Spec.countIn
    rw [countIn_strs z r]
    have e : PySem.Spec.same (.str y) (.str z) = (y == z) := by simp [PySem.Spec.same]
    rw [e]
    cases h : (y == z) with
    | true =>
      rw [if_pos rfl, if_pos rfl]
      omega
    | false =>
      rw [if_neg (by decide), if_neg (by decide)]
      omega
theorem mt_cntS {X : Cx} : MtR X "list.count" (rCntS X.K) := by
  intro pins s σ H x xs v us Q I rx rxs h
  obtain ⟨p, ys, z, rfl, rfl, hs, q⟩ := h
  cases rx
  obtain ⟨u, rfl, ru⟩ := rxs.one
  obtain ⟨t, rfl⟩ := ru
  obtain ⟨its, rv, pl, hlen⟩ := I.list hs
  refine count_list_strs pl.isList rv.strs ?_
  rw [countIn_strs]
  exact ⟨.int _, H, I.tok _, ⟨_, rfl⟩, q⟩
end Z

set_option Elab.async false
set_option linter.all false
set_option maxRecDepth 100000
set_option maxHeartbeats 2000000
namespace Z
open PySem PySem.Spec PyProof.Rows L2
theorem upd_id {H : Hp} {a : Addr} {o : HO} (h : H a = some o) : upd H a o = H := by
  funext b
  unfold upd
  by_cases e : b = a
  · rw [if_pos e, e, h]
  · rw [if_neg e]
theorem rpAll_nat {K : PySem.W.Frag} {H : Hp} (ns : List Nat) : RpAll K H (ns.map natV) (ns.map natD) := rpAll_map ns fun n _ => .int n
theorem nats_of {K : PySem.W.Frag} {H : Hp} : ∀ {vs : List V} {l : List Nat}, RpAll K H vs (l.map natD) → vs = l.map natV
  | _, [], .nil => rfl
  | _, i :: r, .cons h t => by
    cases h
    rw [nats_of t] <;> rfl
section
variable {C : Cz} {ε ε' : Ev} {L L' M2 : Led} {k : Rs → Led → Prop} {K : PySem.W.Frag} {te : TE} {P : Post} {t : TS} {H H' : Hp}
/-- the draws at l are some numbers -/
theorem LOk.open_ {l : Addr} (o : LOk K L H) (m : (l, .drw) ∈ L) : ∃ ns : List Nat, LOk K (Z.up L l (.lst (ns.map natD))) H := by
  obtain ⟨ns, e⟩ := o.isDrw m
  have q := o.up (ys := ns.map natV) (ds := ns.map natD) (Led.key m) (rpAll_nat ns)
  rw [upd_id e] at q
  exact ⟨ns, q⟩
theorem grow_re {L M2 : Led} (h : L.ks = M2.ks) : Grow H L H M2 := ⟨fun _ _ e _ => e, fun a ha => .inl (by rw [h]; exact ha)⟩
theorem keeps_re {L M2 : Led} (h : L.ks = M2.ks) : Keeps L M2 := fun a ha => by rw [← h]; exact ha
/-! ### less of the ledger -/
inductive MoLe : Mo → Mo → Prop
  | same (m : Mo) : MoLe m m
  | drw (ns : List Nat) : MoLe (.lst (ns.map natD)) .drw
def Wk (L' M2 : Led) : Prop := ∃ L1 : Led, L1.Sublist L' ∧ Paired (fun p q => q.1 = p.1 ∧ MoLe p.2 q.2) L1 M2
theorem paired_ks : ∀ {L1 M2 : Led}, Paired (fun p q => q.1 = p.1 ∧ MoLe p.2 q.2) L1 M2 → M2.ks = L1.ks
  | _, _, .nil => rfl
  | _, _, .cons h t => by
    unfold Led.ks
    rw [List.map_cons, List.map_cons, h.1]
    exact congrArg _ (paired_ks t)
theorem Wk.sub (w : Wk L' M2) : ∀ a ∈ M2.ks, a ∈ L'.ks := fun a ha => by
  obtain ⟨L1, s, p⟩ := w
  rw [paired_ks p] at ha
  exact (s.map Prod.fst).subset ha
theorem Wk.ext (w : Wk L' M2) : Ext (hid L' H) (hid M2 H) := fun a o e => by
  by_cases ha : a ∈ L'.ks
  · rw [hid_in ha] at e
    cases e
  · rw [hid_out ha] at e
    rw [hid_out fun z => ha (w.sub a z)]
    exact e
theorem Wk.back (w : Wk L' M2) : ∀ q ∈ M2, ∃ m, (q.1, m) ∈ L' ∧ MoLe m q.2 := fun q hq => by
  obtain ⟨L1, s, p⟩ := w
  have key : ∀ {L1 M2 : Led}, Paired (fun p q => q.1 = p.1 ∧ MoLe p.2 q.2) L1 M2 → q ∈ M2 → ∃ m, (q.1, m) ∈ L1 ∧ MoLe m q.2 := by
    intro L1 M2 pp
    induction pp with
    | nil => intro h; cases h
    | cons h t ih =>
      intro hm
      rcases List.mem_cons.mp hm with e | e
      · subst e
        exact ⟨_, by rw [h.1]; exact List.mem_cons_self, h.2⟩
      · obtain ⟨m, a, b⟩ := ih e
        exact ⟨m, List.mem_cons_of_mem _ a, b⟩
  obtain ⟨m, a, b⟩ := key p hq
  exact ⟨m, s.subset a, b⟩
theorem LOk.wk (l : LOk K L' H) (w : Wk L' M2) : LOk K M2 H := by
  refine ⟨?_, fun q hq => ?_⟩
  · obtain ⟨L1, s, p⟩ := w
    rw [paired_ks p]
    exact (s.map Prod.fst).nodup l.nd
  · obtain ⟨m, hm, le⟩ := w.back q hq
    have o := l.at_ _ hm
    obtain ⟨a, m2⟩ := q
    have le : MoLe m m2 := le
    have o : MoOk K L' H a m := o
    generalize hm2 : m2 = mm at le
    cases le with
    | same =>
      subst hm2
      cases m2 with
      | drw => exact o
      | lst ds =>
        obtain ⟨xs, e, r⟩ := o
        exact ⟨xs, e, rpAll_mono w.ext r⟩
      | dct ds =>
        obtain ⟨xs, e, r⟩ := o
        exact ⟨xs, e, rpKv_mono w.ext r⟩
    | drw ns =>
      obtain ⟨xs, e, r⟩ := o
      have ex := nats_of r
      subst ex
      exact ⟨ns, e⟩
theorem Grow.wk (g : Grow H L H' L') (w : Wk L' M2) : Grow H L H' M2 := ⟨g.old, fun a ha => g.new a (w.sub a ha)⟩
theorem Grow.wk1 (g : Grow H M2 H' L) (w : Wk L' M2) : Grow H L' H' L := ⟨fun a o e n => g.old a o e fun z => n (w.sub a z), fun a ha => (g.new a ha).imp_left fun z => w.sub a z⟩
inductive RsWk (L' M2 : Led) : Rs → Rs → Prop
  | dat (d : PyData) : RsWk L' M2 (.dat d) (.dat d)
  | raw (v : V) : RsWk L' M2 (.raw v) (.raw v)
  | scr (ns : List Int) : RsWk L' M2 (.scr ns) (.scr ns)
  | own {a : Addr} (h : a ∈ M2.ks) : RsWk L' M2 (.own a) (.own a)
  | frz {a : Addr} {ds : List PyData} (m : (a, .lst ds) ∈ L') (h : a ∉ M2.ks) : RsWk L' M2 (.own a) (.dat (.list ds))
  | frzM {a : Addr} {kvs : List (Key × PyData)} (m : (a, .dct kvs) ∈ L') (h : a ∉ M2.ks) : RsWk L' M2 (.own a) (.dat (.dict (kvs.map fun p => (kD p.1, p.2))))
theorem RsOk.wk {v : V} {r r2 : Rs} (o : RsOk K L' H v r) (l : LOk K L' H) (w : Wk L' M2) (x : RsWk L' M2 r r2) : RsOk K M2 H v r2 := by
  cases x with
  | dat d => exact rp_mono w.ext o
  | raw v => exact o
  | scr ns =>
    obtain ⟨a, e, h⟩ := o
    exact ⟨a, e, ext_l w.ext h⟩
  | own h => exact ⟨o.1, h⟩
  | frz m h =>
    obtain ⟨rfl, _⟩ := o
    obtain ⟨xs, e, r⟩ := l.isLst m
    exact .lst (by rw [hid_out h]; exact e) (rpAll_mono w.ext r)
  | frzM m h =>
    obtain ⟨rfl, _⟩ := o
    obtain ⟨xs, e, r⟩ := l.at_ _ m
    exact .dct (by rw [hid_out h]; exact e) (rpKv_mono w.ext r)
def EvWk (L' M2 : Led) (ε ε2 : Ev) : Prop := ε.length = ε2.length ∧ ∀ (i : Nat) (r2 : Rs), ε2[i]? = some (some r2) → ∃ r, ε[i]? = some (some r) ∧ RsWk L' M2 r r2
theorem Rel.wk {σ : L2.St} (R : Rel K L' ε σ H) (w : Wk L' M2) (e : EvWk L' M2 ε ε') : Rel K M2 ε' σ H := by
  refine ⟨R.len.trans e.1, fun i r2 hr => ?_, R.led.wk w⟩
  obtain ⟨r, e1, x⟩ := e.2 i r2 hr
  obtain ⟨v, e2, o⟩ := R.slot i r e1
  exact ⟨v, e2, o.wk R.led w x⟩
theorem hs_wk (w : Wk L' M2) (e : EvWk L' M2 ε ε') (h : HS C t ε' M2 P) : HS C t ε L' P := fun σ H D R X E =>
  h σ H D (R.wk w e) (fun c e' s' l' h' g => X c e' s' l' h' (g.wk1 w)) ⟨fun e' l' s' h' g => E.nx e' l' s' h' (g.wk1 w), fun v r l' h' g => E.rt v r l' h' (g.wk1 w), fun e' l' s' h' g => E.bk e' l' s' h' (g.wk1 w), fun e' l' s' h' g => E.ct e' l' s' h' (g.wk1 w)⟩
theorem hs_retW (h : CP C te ε L fun r L1 => ∃ M2 r2, Wk L1 M2 ∧ RsWk L1 M2 r r2 ∧ P.rt r2 M2) : HS C (tRet te) ε L P := fun σ H D R X E =>
  h σ H _ R X fun v r L1 H1 g1 k1 R1 o1 ⟨M2, r2, w, x, q⟩ => E.rt v r2 M2 H1 (g1.wk w) (R1.led.wk w) (o1.wk R1.led w x) q
theorem paired_le_refl : ∀ L : Led, Paired (fun p q => q.1 = p.1 ∧ MoLe p.2 q.2) L L
  | [] => .nil
  | p :: r => .cons ⟨rfl, .same _⟩ (paired_le_refl r)
theorem wk_of_sub (h : M2.Sublist L') : Wk L' M2 := ⟨M2, h, paired_le_refl M2⟩
theorem wk_plus {p : Addr} {ds : List PyData} : Wk (plus L p ds) L := wk_of_sub (List.sublist_append_left _ _)
theorem wk_refl : Wk L L := wk_of_sub (List.Sublist.refl _)
/-- numbers at l: draws again -/
theorem wk_drw {l : Addr} {ns : List Nat} (m : (l, .drw) ∈ L) : Wk (up L l (.lst (ns.map natD))) (up L l .drw) := by
  refine ⟨_, List.Sublist.refl _, ?_⟩
  clear m
  unfold up
  induction L with
  | nil => exact .nil
  | cons p r ih =>
    refine .cons ?_ ih
    show (if p.1 = l then (l, Mo.drw) else p).1 = (if p.1 = l then (l, Mo.lst (ns.map natD)) else p).1 ∧ MoLe (if p.1 = l then (l, Mo.lst (ns.map natD)) else p).2 (if p.1 = l then (l, Mo.drw) else p).2
    by_cases h : p.1 = l
    · rw [if_pos h, if_pos h]
      exact ⟨rfl, .drw ns⟩
    · rw [if_neg h, if_neg h]
      exact ⟨rfl, .same _⟩
theorem up_up {l : Addr} {m m' : Mo} : up (up L l m) l m' = up L l m' := by
  unfold up
  rw [List.map_map]
  refine List.map_congr_left fun p _ => ?_
  show (if (if p.1 = l then (l, m) else p).1 = l then (l, m') else (if p.1 = l then (l, m) else p)) = _
  by_cases h : p.1 = l
  · rw [if_pos h, if_pos rfl, if_pos h]
  · rw [if_neg h, if_neg h]
theorem up_self {l : Addr} {m : Mo} (u : ∀ m', (l, m') ∈ L → m' = m) : up L l m = L := by
  unfold up
  refine (List.map_congr_left fun p hp => ?_).trans (List.map_id L)
  by_cases h : p.1 = l
  · rw [if_pos h]
    obtain ⟨a, m2⟩ := p
    have h' : a = l := h
    subst h'
    rw [u m2 hp]
    rfl
  · rw [if_neg h]
    rfl
theorem wk_back {l : Addr} {ns : List Nat} (e : up L l .drw = L) : Wk (up L l (.lst (ns.map natD))) L := by
  have w : Wk (up L l (.lst (ns.map natD))) (up L l .drw) := by
    refine ⟨_, List.Sublist.refl _, ?_⟩
    unfold up
    clear e
    induction L with
    | nil => exact .nil
    | cons p r ih =>
      refine .cons ?_ ih
      show (if p.1 = l then (l, Mo.drw) else p).1 = (if p.1 = l then (l, Mo.lst (ns.map natD)) else p).1 ∧ MoLe (if p.1 = l then (l, Mo.lst (ns.map natD)) else p).2 (if p.1 = l then (l, Mo.drw) else p).2
      by_cases h : p.1 = l
      · rw [if_pos h, if_pos h]
        exact ⟨rfl, .drw ns⟩
      · rw [if_neg h, if_neg h]
        exact ⟨rfl, .same _⟩
  rw [e] at w
  exact w
theorem hs_open {l : Addr} (m : (l, .drw) ∈ L) (h : ∀ ns : List Nat, up L l .drw = L → HS C t ε (up L l (.lst (ns.map natD))) P) : HS C t ε L P := fun σ H D R X E => by
  obtain ⟨ns, o⟩ := R.led.open_ m
  have g : Grow H L H (up L l (.lst (ns.map natD))) := grow_re (up_ks _ _ _).symm
  exact h ns (up_self fun m' hm => R.led.uniq hm m) σ H D (R.grow g (keeps_re (up_ks _ _ _).symm) o) (X.grow g) (E.grow g)
/-- an owned list is given up at the statement: all names of it are data -/
def frz (p : Addr) (ds : List PyData) : Option Rs → Option Rs
  | some (.own a) => if a = p then some (.dat (.list ds)) else some (.own a)
  | r => r
theorem hs_frz {p : Addr} {ds : List PyData} (hp : p ∉ L.ks) (ho : ∀ a, some (Rs.own a) ∈ ε → a = p ∨ a ∈ L.ks) (h : HS C t (ε.map (frz p ds)) L P) : HS C t ε (plus L p ds) P := by
  refine hs_wk wk_plus ⟨by rw [List.length_map], fun i r2 hr => ?_⟩ h
  rw [List.getElem?_map] at hr
  cases e : ε[i]? with
  | none =>
    rw [e] at hr
    cases hr
  | some o =>
    rw [e] at hr
    cases o with
    | none => cases hr
    | some r =>
      refine ⟨r, rfl, ?_⟩
      cases r with
      | dat d => cases hr; exact .dat d
      | raw v => cases hr; exact .raw v
      | scr ns => cases hr; exact .scr ns
      | own a =>
        have hr' : frz p ds (some (.own a)) = some r2 := by
          have := hr
          simpa using this
        have hr' : (if a = p then some (Rs.dat (.list ds)) else some (.own a)) = some r2 := hr'
        by_cases z : a = p
        · rw [if_pos z] at hr'
          cases hr'
          subst z
          exact .frz (List.mem_append_right _ List.mem_cons_self) hp
        · rw [if_neg z] at hr'
          cases hr'
          rcases ho a (List.mem_of_getElem? e) with q | q
          · exact absurd q z
          · exact .own q
end
end Z

set_option Elab.async false
set_option linter.all false
set_option maxRecDepth 100000
set_option maxHeartbeats 2000000
/-! errors: raise, try .. except Base as e, a def called with the error in the suite -/
namespace Z
open PySem PySem.Spec PyProof.Rows L2
/-- what a def promises that is called within an except suite with the error itself: a its address, D its class -/
structure FnQ (P : Program) (w : World) (K : PySem.W.Frag) (mg : Str → Option Value) (base : Heap) (k : Nat) (f : Addr) (fd : FuncData) (ps : List Str) (sp : Addr → Addr → Sp) : Prop where
  len : ∀ a D vs H Q E, sp a D vs H Q E → vs.length = ps.length
  run : ∀ (A : Around) (outer : List Env) (s : Shared) (H : Hp) (args : Args) (us : List Value) (vs : List V) (Q : VK) (p : Addr × Obj) (D : Addr), L2H.RoomH k A → L2H.PinOk outer H s p → Zc (.ref D) none p.2 → (∃ fs, p.2.data = .fields fs) →
    Env0 P w K mg base A outer s H → BindsTo s fd args (ps.zip us) → Vals vs us → sp p.1 D vs H Q E0 → codeAny (model P w) A (.call (.ref f) args) (CR CX0 outer P w H s Q E0) s
section
variable {P : Program} {w : World} {K : PySem.W.Frag} {mg : Str → Option Value} {base : Heap}
theorem fn_q {k : Nat} {f : Addr} {fd : FuncData} {x qual : Str} {st : Stmt} {N ps : List Str} {sp : Addr → Addr → Sp} (F : Fun K x qual st f fd) (S : FnScope N ps (defScope st)) (len : ∀ a D vs H Q E, sp a D vs H Q E → vs.length = ps.length)
    (body : ∀ (cdv : Value) (A : Around) (outer : List Env) (s : Shared) (H : Hp) (vs : List V) (Q : VK) (p : Addr × Obj) (D : Addr), L2H.RoomH k (A.deeper (envOfC qual (defScope st) s.heap.objs.size f cdv)) → Zc (.ref D) none p.2 → (∃ fs, p.2.data = .fields fs) → sp p.1 D vs H Q E0 →
      ∃ t, PSs (L2H.cxH CX0 P w K mg base N qual (defScope st) f cdv A outer s H E0 p) (defBody st) t ∧ t { nx := fun _ H' => Q .non H', rt := Q } (L2.start N vs) H) :
    FnQ P w K mg base (k + 1) f fd ps sp := by
  obtain ⟨oc, od, kV, doc, pm, an, cdv, ct, osl, rfl, lk, hcd⟩ := F.ex
  refine ⟨len, fun A outer s H args us vs Q p D hr hpin hz hfs e0 hb r hsp => ?_⟩
  have old : ∀ b o, base.get? b = some o → s.heap.get? b = some o := fun b o e => (e0.bs b o e).1
  have inK : K.In s.heap := e0.mod.kin.keeps old
  have par : ∀ y ∈ ps.zip us, (defScope st).names.lookup y.1 = some .local ∨ ((defScope st).names.lookup y.1 = some .cell ∧ ((cellsFrom (s.heap.objs.size + 1) (defScope st).names []).lookup y.1).isSome = true) := fun ⟨n, v⟩ hy => by
    rcases S.par n (List.of_mem_zip hy).1 with q | q
    · exact .inl q
    · exact .inr ⟨q, PySem.W.cellsFrom_some _ _ _ (.inl q)⟩
  refine codeAny_call_function hr.depth (inK _ _ lk) rfl S.co S.gen rfl (PySem.W.codeRec_of inK hcd) (hb _ _ _ _ (wpAny_newFunctionEnv_cells S.kind par fun env he s1 x => ?_))
  subst he
  refine ⟨(e0.mod.nolimit.keeps old).keeps x.toInCall.keep, codeAny_func ?_⟩
  obtain ⟨t, ht, hq⟩ := body cdv A outer s H vs Q p D (hr.deeper _) hz hfs hsp
  have J : Inv (L2H.cxH CX0 P w K mg base N qual (defScope st) f cdv A outer s H E0 p) [] (L2.start N vs) H s1 := L2H.inv_startH S hpin e0 (len _ _ _ _ _ _ hsp) r x
  refine wpAny_mono (ht.run [] s1 (L2.start N vs) H _ J hq) (fun fl s2 h2 => ?_) fun e s2 h2 => h2
  have done : ∀ {σ2 : L2.St} {H2 : Hp} {v : V} {u : Value}, Inv (L2H.cxH CX0 P w K mg base N qual (defScope st) f cdv A outer s H E0 p) [] σ2 H2 s2 → RelV v u → Q v H2 → CE outer P w H s Q u s2 := fun {σ2 H2 v u} I rv q => ⟨v, H2, I.os, I.bare, I.base, I.hok, rv, q⟩
  cases fl with
  | ret u => exact let ⟨v, σ2, H2, I, rv, q⟩ := h2; done I rv q
  | next => exact let ⟨σ2, H2, I, q⟩ := h2; done (v := V.non) (u := Value.none) I rfl q
  | brk => exact let ⟨_, _, _, q⟩ := h2; False.elim q
  | cont => exact let ⟨_, _, _, q⟩ := h2; False.elim q
end
/-- its call in the suite that holds the error at a -/
def tCallQ (sp : Addr → Addr → Sp) (a : Addr) (cls : Value) (d : Option Addr) (t : TA) : TE := fun σ H Q => d = none ∧ ∃ D, cls = .ref D ∧ t σ H fun vs H1 => sp a D vs H1 Q E0
theorem pe_callQ {X : Cx} {k : Nat} {f : Addr} {fd : FuncData} {ps : List Str} {sp : Addr → Addr → Sp} {x : Str} {q pos : Pos} {e : Expr} {es : List Expr} {t : TA} {a : Addr} {oe : Obj} {cls : Value} {d : Option Addr} {pn : List (Addr × Obj)}
    (F : FnQ X.prog X.w X.K X.mg X.base k f fd ps sp) (hr : L2H.RoomH k (X.A.mark (some (.ref a)))) (hz : Zc cls d oe) (hfs : ∃ vs, oe.data = .fields vs) (hg : Gl X x) (hm : X.mg x = some (.ref f)) (hk : PySem.W.keepIn X.K (.ref f) = true) (hb : Binds X.K fd ps [])
    (ha : PA (X.suite a ((a, oe) :: pn)) (e :: es) t) (hdb : (x == ("__debug__" : Str)) = false := by decide) (he : starEach (e :: es) X.env = (false, eval e X.env) :: starEach es X.env := by rfl) (hpl : (backTo pos (starEach es X.env)).any (·.1) = false := by rfl) :
    PE (X.suite a ((a, oe) :: pn)) (.Call (.Name x q) (e :: es) [] pos) (tCallQ sp a cls d t) := by
  refine ⟨fun pins s σ H Q I h => ?_⟩
  obtain ⟨rfl, D, rfl, h⟩ := h
  refine wpAny_Call_Name_kw (ld_glob (X := X.suite a ((a, oe) :: pn)) I hg hm ?_ hdb)
  refine PySem.W.callWith_K (h₀ := X.base) I.ok.mod.kin hk (thn (ha.run pos pins s σ H _ I h) fun us s1 ⟨vs, H1, I1, r, q⟩ => ⟨I1.kIn, ?_⟩) he hpl
  have hl : us.length = ps.length := by
    rw [← r.length]
    exact F.len _ _ _ _ _ _ q
  have b := hb s1 us I1.kIn (by rw [List.append_nil]; exact hl)
  rw [List.append_nil] at b
  have P1 := I1.pin (a, oe) (List.mem_append_left _ List.mem_cons_self)
  have pin : L2H.PinOk X.stack H1 s1 (a, oe) := ⟨P1.1, P1.2.1, fun hm => (List.mem_cons.mp (I1.stkSub a hm)).elim P1.2.2.1 P1.2.2.2.1, P1.2.2.2.2⟩
  refine wpAny_call (codeAny_mono (F.run (X.A.mark (some (.ref a))) X.stack s1 H1 ⟨us, []⟩ us vs Q (a, oe) D hr pin hz hfs I1.env0 b r q) fun res s2 hq => ?_)
  cases res with
  | error e => exact False.elim hq
  | ok fl =>
    cases fl with
    | ret u => exact I1.after hq
    | next => exact False.elim hq
    | brk => exact False.elim hq
    | cont => exact False.elim hq
/-- isinstance(e, c) in such a def -/
theorem call_isQ {X : Cx} {p : Addr × Obj} {D : Addr} (C : ExcC X.K D) (hp : p ∈ X.pn) (hz : Zc (.ref D) none p.2) (hf : ∃ vs, p.2.data = .fields vs) : CallR X (.builtin "isinstance") (rIsE X.K D p.1) := by
  intro pins s σ H xs us Q I r h
  obtain ⟨c, cv, b, rfl, hcv, e, q⟩ := h
  obtain ⟨u1, u2, rfl, r1, r2⟩ := Vals.two r
  obtain rfl : u1 = Value.ref p.1 := r1
  have ec := hcv _ r2
  subst ec
  obtain ⟨hget, _⟩ := I.pin p (List.mem_append_left _ hp)
  obtain ⟨vs, hv⟩ := hf
  obtain ⟨pa, po⟩ := p
  obtain ⟨oc, od, oda, osl⟩ := po
  obtain ⟨h1, h2⟩ := hz
  dsimp only at h1 h2 hv hget
  subst h1 h2 hv
  have J : PySem.W.InstAt s.heap pa ⟨.ref D, none, .fields vs, osl⟩ D none := ⟨hget, rfl, rfl, trivial⟩
  exact PySem.W.kia_one (PySem.W.handS_kitx_exc C.hg C.hk C.hs C.hd C.ha C.hn C.ht C.hm) I.kIn J e (fun z => nomatch z) fun tk => ⟨.bl b, H, I.kept (t' := tk) fun _ _ z => z, rfl, q⟩
/-- the flags of an error of the class D: isinstance with each of the classes cs -/
def spFlags (K : PySem.W.Frag) (cs : List Addr) : Addr → Addr → Sp := fun a D vs H Q _ => vs = [.ref a] ∧ ExcC K D ∧ ∃ bs : List Bool, Paired (fun c b => PySem.W.kitOne K (.ref D) (.ref c) = some b) cs bs ∧ ∀ p, H p = none → Q (.ref p) (upd H p (.lst (bs.map V.bl)))

section
variable {C : Cz} {ε : Ev} {L : Led} {k : Rs → Led → Prop} {ta : TA} {P : Post}
/-- raise -/
theorem hs_raise {c : Addr} (h : C.kx c ε L) : HS C (fun _ σ H => C.W (.ref c) none σ H) ε L P := fun σ H D R X E => X c ε σ L H (Grow.refl H L) R h
/-- try: .. except c₀ as n (slot i) -/
theorem hs_tryAs {K : PySem.W.Frag} {c₀ : Value} {i : Nat} {tb : WX → TS} {ts : Addr → Value → Option Addr → TS} {Wout : WX} (kx : KX) (hb : ∀ W, HS ⟨C.K, W, kx⟩ (tb W) ε L P)
    (hx : ∀ c ε' L', kx c ε' L' → PySem.W.exmOne K (.ref c) c₀ = some true ∧ ∀ a, HS C (ts a (.ref c) none) (ε'.set i (some (.raw (.ref a)))) L' { nx := fun e l => P.nx (e.set i none) l, rt := P.rt, bk := fun e l => P.bk (e.set i none) l, ct := fun e l => P.ct (e.set i none) l }) (hK : C.K = K := by rfl) :
    HS C (fun D σ H => tb (wAs K c₀ i ts Wout D) D σ H) ε L P := fun σ H D R X E => by
  subst hK
  refine hb (wAs C.K c₀ i ts Wout D) σ H D R (fun c e' s' l' h' g r q => ?_) E
  obtain ⟨hm, hs⟩ := hx c e' l' q
  refine ⟨true, hm, fun _ a ha => ?_, fun z => nomatch z⟩
  exact hs a _ h' _ (rel_set r rfl) (X.grow g) ⟨fun e2 l2 s2 h2 g2 r2 q2 => (E.grow g).nx _ l2 _ h2 g2 (rel_none r2 i) q2, (E.grow g).rt, fun e2 l2 s2 h2 g2 r2 q2 => (E.grow g).bk _ l2 _ h2 g2 (rel_none r2 i) q2, fun e2 l2 s2 h2 g2 r2 q2 => (E.grow g).ct _ l2 _ h2 g2 (rel_none r2 i) q2⟩
/-- flags(e) in the suite -/
theorem cp_flags {K : PySem.W.Frag} {cs : List Addr} {a c : Addr} {bs : List Bool} (x : ExcC K c) (hp : Paired (fun c' b => PySem.W.kitOne K (.ref c) (.ref c') = some b) cs bs) (h : CA C ta ε L fun rs L1 => rs = [.raw (.ref a)] ∧ k (.dat (.list (bs.map PyData.bool))) L1) : CP C (tCallQ (spFlags K cs) a (.ref c) none ta) ε L k := fun σ H Q R X z =>
  ⟨rfl, c, rfl, h σ H _ R X fun vs rs L1 H1 g1 k1 R1 o1 ⟨e, q⟩ => by
    subst e
    obtain ⟨v, rfl, o⟩ := rsAll_1 o1
    have o' : v = .ref a := o
    subst o'
    refine ⟨rfl, x, bs, hp, fun p hp => ?_⟩
    have g2 : Grow H1 L1 (upd H1 p (.lst (bs.map V.bl))) L1 := grow_new hp
    exact z _ (.dat (.list (bs.map PyData.bool))) L1 _ (g1.trans g2) k1 (R1.grow g2 (Keeps.refl _) (R1.led.new hp)) (.lst (by rw [hid_out (R1.led.fresh hp)]; exact upd_same) (rpAll_bools bs)) q⟩
end
end Z

set_option Elab.async false
set_option linter.all false
set_option maxRecDepth 100000
set_option maxHeartbeats 2000000
namespace Z
open PySem PySem.Spec PyProof.Rows L2
def rtOk (L : Led) (k : Rs → Led → Prop) (r : Rs) (L' : Led) : Prop := ∃ L2 r2, Wk L' L2 ∧ RsWk L' L2 r r2 ∧ Keeps L L2 ∧ k r2 L2
theorem rt_dat {L : Led} {k : Rs → Led → Prop} {d : PyData} (h : k (.dat d) L) : rtOk L k (.dat d) L := ⟨L, _, wk_refl, .dat d, Keeps.refl L, h⟩
/-- behind local lists -/
theorem rt_sub {L L' : Led} {k : Rs → Led → Prop} {d : PyData} (s : L.Sublist L') (h : k (.dat d) L) : rtOk L k (.dat d) L' := ⟨L, _, wk_of_sub s, .dat d, Keeps.refl L, h⟩
theorem rt_plus {L : Led} {k : Rs → Led → Prop} {d : PyData} {p : Addr} {ds : List PyData} (h : k (.dat d) L) : rtOk L k (.dat d) (plus L p ds) := rt_sub (List.sublist_append_left _ _) h
/-- a local list is handed out -/
theorem rt_own {L : Led} {k : Rs → Led → Prop} {p : Addr} {ds : List PyData} (hp : p ∉ L.ks) (h : k (.dat (.list ds)) L) : rtOk L k (.own p) (plus L p ds) := ⟨L, _, wk_plus, .frz (List.mem_append_right _ List.mem_cons_self) hp, Keeps.refl L, h⟩
theorem rt_draws {L : Led} {k : Rs → Led → Prop} {l : Addr} {ns : List Nat} {d : PyData} (e : up L l .drw = L) (h : k (.dat d) L) : rtOk L k (.dat d) (up L l (.lst (ns.map natD))) := ⟨L, _, wk_back e, .dat d, Keeps.refl L, h⟩
def dPost (L : Led) (k : Rs → Led → Prop) : Post := { nx := fun _ L' => rtOk L k (.dat .none) L', rt := rtOk L k }
theorem run_body {C : Cz} {t : TS} {H : Hp} {N : List Str} {vs : List V} {rs : List Rs} {L : Led} {k : Rs → Led → Prop} {Q : VK} (h : HS C t (ev0 N.length rs) L (dPost L k)) (o : RsAll C.K L H vs rs) (l : LOk C.K L H) (X : ExOk C L H)
    (z : ∀ v r L' H', Grow H L H' L' → Keeps L L' → LOk C.K L' H' → RsOk C.K L' H' v r → k r L' → Q v H') : t { nx := fun _ H' => Q .non H', rt := Q } (L2.start N vs) H :=
  h _ H _ (rel_start o l) X ⟨fun e L' s H' g r ⟨L2, r2, a, b, c, d⟩ => z .non r2 L2 H' (g.wk a) c (r.led.wk a) (RsOk.wk (r := .dat .none) .non r.led a b) d, fun v r L' H' g l o ⟨L2, r2, a, b, c, d⟩ => z v r2 L2 H' (g.wk a) c (l.wk a) (o.wk l a b) d, fun _ _ _ _ _ _ f => f.elim, fun _ _ _ _ _ _ f => f.elim⟩
theorem rsAll_len {K : PySem.W.Frag} {L : Led} {H : Hp} {vs : List V} {rs : List Rs} (h : RsAll K L H vs rs) : vs.length = rs.length := Paired.length h
section
variable {P : Program} {w : World} {K : PySem.W.Frag} {mg : Str → Option Value} {base : Heap} {x qual : Str} {st : Stmt} {f : Addr} {fd : FuncData} {N ps : List Str} {k : Nat} {d : DSp}
/-- a def that raises nothing -/
theorem fn_z (F : Fun K x qual st f fd) (S : FnScope N ps (defScope st)) (len : ∀ rs L k x, d rs L k x → rs.length = ps.length)
    (body : ∀ (cdv : Value) (A : Around) (outer : List Env) (s : Shared) (H : Hp) (E : XK), Room k (A.deeper (envOfC qual (defScope st) s.heap.objs.size f cdv)) →
      ∃ t, PSs (cxOf CX0 P w K mg base N qual (defScope st) f cdv A outer s H E).nox (defBody st) t ∧ ∀ rs L q x, d rs L q x → HS (C0 K) t (ev0 N.length rs) L (dPost L q)) :
    FnOk P w K mg base CX0 (k + 1) f fd ps (lift K d) := by
  refine F.ok S (fun vs H Q E h => ?_) (fun cdv A outer s H vs Q E hr h => ?_)
  · obtain ⟨rs, L, q, x, o, _, hd, _⟩ := h
    rw [rsAll_len o]
    exact len rs L q x hd
  · obtain ⟨rs, L, q, x, o, l, hd, z, _⟩ := h
    obtain ⟨t, ht, hb⟩ := body cdv A outer s H E hr
    exact ⟨t, ht, run_body (hb rs L q x hd) o l exOk0 z⟩
/-- a def that may raise -/
theorem fn_zX (F : Fun K x qual st f fd) (S : FnScope N ps (defScope st)) (len : ∀ rs L k x, d rs L k x → rs.length = ps.length)
    (body : ∀ (cdv : Value) (A : Around) (outer : List Env) (s : Shared) (H : Hp) (E : XK), Room k (A.deeper (envOfC qual (defScope st) s.heap.objs.size f cdv)) →
      ∃ t, PSs (cxOf (L2.CX P w) P w K mg base N qual (defScope st) f cdv A outer s H E) (defBody st) t ∧
        ∀ rs L q x, d rs L q x → HS ⟨K, fun cls d _ H => E cls d H, fun c _ L' => Keeps L L' ∧ x c L'⟩ t (ev0 N.length rs) L (dPost L q)) :
    FnOk P w K mg base (L2.CX P w) (k + 1) f fd ps (lift K d) := by
  refine F.okX S (fun vs H Q E h => ?_) (fun cdv A outer s H vs Q E hr h => ?_)
  · obtain ⟨rs, L, q, x, o, _, hd, _⟩ := h
    rw [rsAll_len o]
    exact len rs L q x hd
  · obtain ⟨rs, L, q, x, o, l, hd, z, zx⟩ := h
    obtain ⟨t, ht, hb⟩ := body cdv A outer s H E hr
    exact ⟨t, ht, run_body (hb rs L q x hd) o l (fun c e s' L' H' g r f => zx c L' H' g f.1 r.led f.2) z⟩
end

/-- a def of the text as it stands: where, its row, how its arguments bind -/
structure DefAt (K : PySem.W.Frag) (mg : Str → Option Value) (x : Str) (st : Stmt) (ps : List Str) (f : Addr) (fd : FuncData) : Prop where
  g : mg x = some (.ref f)
  F : Fun K x x st f fd
  b : Binds K fd ps []
/-- a def that keeps its promise, as its callers want it -/
def Has (P : Program) (w : World) (K : PySem.W.Frag) (mg : Str → Option Value) (base : Heap) (k : Nat) (x : Str) (ps : List Str) (d : DSp) : Prop :=
  ∃ f fd, mg x = some (.ref f) ∧ PySem.W.keepIn K (.ref f) = true ∧ Binds K fd ps [] ∧ FnOk P w K mg base CX0 k f fd ps (lift K d)
def HasX (P : Program) (w : World) (K : PySem.W.Frag) (mg : Str → Option Value) (base : Heap) (k : Nat) (x : Str) (ps : List Str) (d : DSp) : Prop :=
  ∃ f fd, mg x = some (.ref f) ∧ PySem.W.keepIn K (.ref f) = true ∧ Binds K fd ps [] ∧ FnOk P w K mg base (L2.CX P w) k f fd ps (lift K d)
theorem ite_b {b : Bool} {A B : Prop} (h1 : b = true → A) (h2 : b = false → B) : if b = true then A else B := by
  cases b with
  | true => exact h1 rfl
  | false => exact h2 rfl
theorem ite_t {A B : Prop} (h : A) : if true = true then A else B := h
theorem ite_f {A B : Prop} (h : B) : if false = true then A else B := by
  rw [if_neg (by decide)]
  exact h
/-! more operators -/
def rGtZ : R2 := rI0 fun i j => .bl (decide (j < i))
theorem op_gtZ {X : Cx} : OpR X (compareOp .Gt) rGtZ := op_gt
def rLeZ : R2 := rI0 fun i j => .bl (decide (i ≤ j))
theorem op_leZ {X : Cx} : OpR X (compareOp .LtE) rLeZ := op_le
def rGeZ : R2 := rI0 fun i j => .bl (decide (j ≤ i))
theorem op_geZ {X : Cx} : OpR X (compareOp .GtE) rGeZ := op_ge
section
variable {C : Cz} {L : Led} {k : Rs → Led → Prop} {K : PySem.W.Frag}
theorem od_gt {i j : Int} (q : k (.dat (.bool (decide (j < i)))) L) : OD C rGtZ (.dat (.int i)) (.dat (.int j)) L k := od_cmp (g := fun a b => decide (b < a)) q
theorem od_le {i j : Int} (q : k (.dat (.bool (decide (i ≤ j)))) L) : OD C rLeZ (.dat (.int i)) (.dat (.int j)) L k := od_cmp (g := fun a b => decide (a ≤ b)) q
theorem od_ge {i j : Int} (q : k (.dat (.bool (decide (j ≤ i)))) L) : OD C rGeZ (.dat (.int i)) (.dat (.int j)) L k := od_cmp (g := fun a b => decide (b ≤ a)) q
theorem od_fdiv {i j : Int} (h : CDivW i j) (q : k (.dat (.int (i / j))) L) : OD C (rI CDivW fun i j => .int (i / j)) (.dat (.int i)) (.dat (.int j)) L k := od_intC (c := CDivW) (g := fun i j => i / j) h q
theorem od_pow {i j : Int} (h : CPow i j) (q : k (.dat (.int (i ^ j.toNat))) L) : OD C (rI CPow fun i j => .int (i ^ j.toNat)) (.dat (.int i)) (.dat (.int j)) L k := od_intC (c := CPow) (g := fun i j => i ^ j.toNat) h q
theorem od_repS {a : Str} {n : Int} (h : a.length ≤ 16 ∧ -(2 ^ 63) ≤ n ∧ n ≤ 1048576) (q : k (.dat (.str (Txt.mul a n))) L) : OD C (rMulY K) (.dat (.str a)) (.dat (.int n)) L k := od_or2 (od_val (fun v w H l x y => by
  cases x
  cases y
  exact ⟨.str _, .str _, fun Q f => ⟨a, n, rfl, rfl, h, f⟩⟩) q)
theorem od_mulY_int {i j : Int} (h : CMul i j) (q : k (.dat (.int (i * j))) L) : OD C (rMulY K) (.dat (.int i)) (.dat (.int j)) L k := od_or1 (od_mul_int h q)
theorem od_mulY_lst {ds : List PyData} {n : Int} (h : -(2 ^ 63) ≤ n ∧ n < 2 ^ 63 ∧ ds.length * n.toNat ≤ sizeLine) (q : k (.dat (.list (List.replicate n.toNat ds).flatten)) L) : OD C (rMulY K) (.dat (.list ds)) (.dat (.int n)) L k := od_or1 (od_mul_lst h q)
theorem cd_neg {i : Int} (q : k (.dat (.int (-i))) L) : CD C (fun vs H Q => ∃ v, vs = [v] ∧ rU (fun i => .int (-i)) v H Q) [.dat (.int i)] L k := cd_val (fun vs H l o => by
  obtain ⟨v, rfl, o1⟩ := rsAll_1 o
  cases o1
  exact ⟨.int (-i), .int _, fun Q f => ⟨_, rfl, i, rfl, f⟩⟩) q
theorem md_cntS {a : Addr} {ys : List Str} {z : Str} (m : (a, .lst (ys.map PyData.str)) ∈ L) (q : k (.dat (.int (ys.count z : Nat))) L) (hK : C.K = K := by rfl) : MD C (rCntS K) (.own a) [.dat (.str z)] L k := fun v vs H Q l o1 o2 f => by
  obtain ⟨rfl, ha⟩ := o1
  obtain ⟨w, rfl, o⟩ := rsAll_1 o2
  cases o
  obtain ⟨xs, ex, hx⟩ := l.isLst m
  have e2 := strs_of hx
  subst e2
  exact ⟨a, ys, z, rfl, rfl, SqL.of ex, f _ (.dat (.int (ys.count z : Nat))) L H (Grow.refl H L) (Keeps.refl L) l (.int _) q⟩
end
end Z

set_option Elab.async false
set_option linter.all false
set_option maxRecDepth 100000
set_option maxHeartbeats 2000000
/-! plain lemmas for walks -/
namespace Z
open PySem PySem.Spec PyProof.Rows L2
theorem atI_int {α : Type} {xs : List α} {i : Int} (h0 : 0 ≤ i) (h1 : i < xs.length) : ∃ d, atI xs i = some d ∧ d ∈ xs ∧ xs[i.toNat]? = some d := by
  have hi : i.toNat < xs.length := by omega
  have e : xs[i.toNat]? = some xs[i.toNat] := List.getElem?_eq_getElem hi
  have q := atI_nat e
  rw [Int.toNat_of_nonneg h0] at q
  exact ⟨_, q, List.getElem_mem hi, e⟩
theorem natD_of {i : Int} (h : 0 ≤ i) : PyData.int i = natD i.toNat := by
  unfold natD
  rw [Int.toNat_of_nonneg h]
theorem natD_app (ms : List Nat) {i : Int} (h : 0 ≤ i) : ms.map natD ++ [PyData.int i] = (ms ++ [i.toNat]).map natD := by
  rw [List.map_append, natD_of h]
  rfl
theorem plus_mem {L : Led} {p : Addr} {ds : List PyData} : (p, Mo.lst ds) ∈ plus L p ds := List.mem_append_right _ List.mem_cons_self
theorem plus_old {L : Led} {p a : Addr} {ds : List PyData} {m : Mo} (h : (a, m) ∈ L) : (a, m) ∈ plus L p ds := List.mem_append_left _ h
theorem rng_get {lo : Int} {n i : Nat} {d : PyData} (h : (rng lo n)[i]? = some d) : d = .int (lo + (i : Int)) ∧ i < n := by
  unfold rng at h
  rw [List.getElem?_map] at h
  by_cases hi : i < n
  · rw [List.getElem?_range hi] at h
    cases h
    exact ⟨rfl, hi⟩
  · rw [List.getElem?_eq_none (by rw [List.length_range]; omega)] at h
    cases h
theorem rng_len {lo : Int} {n : Nat} : (rng lo n).length = n := by
  unfold rng
  rw [List.length_map, List.length_range]
theorem rng_mem {lo : Int} {n : Nat} {d : PyData} (h : d ∈ rng lo n) : ∃ i : Nat, i < n ∧ d = .int (lo + (i : Int)) := by
  obtain ⟨i, hi, e⟩ := List.mem_map.mp h
  exact ⟨i, List.mem_range.mp hi, e.symm⟩
theorem map_get {α : Type} {f : α → PyData} {l : List α} {i : Nat} {d : PyData} (h : (l.map f)[i]? = some d) : ∃ x, l[i]? = some x ∧ d = f x := by
  rw [List.getElem?_map] at h
  cases e : l[i]? with
  | none =>
    rw [e] at h
    cases h
  | some x =>
    rw [e] at h
    cases h
    exact ⟨x, rfl, rfl⟩
theorem sz (n : Nat) (h : n < 16777216 := by omega) : n < sizeLine := by
  rw [sizeLine_eq]
  exact h
theorem szl (n : Nat) (h : n ≤ 16777216 := by omega) : n ≤ sizeLine := by
  rw [sizeLine_eq]
  exact h
end Z

set_option Elab.async false
set_option linter.all false
set_option maxRecDepth 100000
set_option maxHeartbeats 2000000
namespace Z
open PySem PySem.Spec PyProof.Rows L2
section
variable {C : Cz} {ε ε' : Ev} {L : Led} {k : Rs → Led → Prop} {wi wi1 : TI} {g g1 : TG} {tt tt1 : TT} {te : TE} {vs vs1 : List Nat} {K : PySem.W.Frag}
/-- [e for target in iter if ..], written on later -/
theorem cp_lcO (h : CI C wi ε L fun ds L1 => ds.length < sizeLine ∧ ∃ I : Nat → List PyData → Prop, I 0 [] ∧
      (∀ i d acc p, ds[i]? = some d → I i acc → p ∉ L1.ks → CG (C0 C.K) g (.dat d) (wipeE ε vs) (plus L1 p acc) fun ε2 L2 => L2 = plus L1 p acc ∧
        CT (C0 C.K) tt ε2 L2 fun b L3 => L3 = plus L1 p acc ∧ if b = true then CP (C0 C.K) te ε2 L3 fun r L4 => L4 = plus L1 p acc ∧ ∃ y, r = .dat y ∧ I (i + 1) (acc ++ [y]) else I (i + 1) acc) ∧
      ∀ acc, I ds.length acc → ∀ p, p ∉ L1.ks → k (.own p) (plus L1 p acc)) (ho : GOwn g vs) : CP C (tLc wi g tt te vs) ε L k := fun σ H Q R X z =>
  h σ H _ R X fun J ds L1 H1 g1 k1 R1 J1 ⟨hsz, I, i0, hs, hd⟩ D hD => by
    have hDn : D ∉ L1.ks := R1.led.fresh hD
    refine ⟨fun i m H' => m = ds.length - i ∧ i ≤ ds.length ∧ ∃ acc, acc.length ≤ i ∧ I i acc ∧ Grow H1 L1 H' (plus L1 D acc) ∧ LOk C.K (plus L1 D acc) H', ⟨_, rfl, Nat.zero_le _, [], Nat.le_refl _, i0, grow_own hD, R1.led.own hD .nil⟩, ?_⟩
    rintro i m H' ⟨rfl, hi, acc, hal, hI, g', l'⟩
    obtain ⟨js, jg⟩ := J1 _ H' g' l' i
    have RW : Rel C.K (plus L1 D acc) (wipeE ε vs) (wipe σ vs) H' := (rel_wipe R1 vs).grow g' keeps_own l'
    by_cases hl : i < ds.length
    · have hx : ds[i]? = some ds[i] := List.getElem?_eq_getElem hl
      obtain ⟨j1, j2⟩ := jg _ hx
      refine .inr ⟨j1, fun H2 => i + 1 ≤ ds.length ∧ ∃ acc2, acc2.length ≤ i + 1 ∧ I (i + 1) acc2 ∧ Grow H1 L1 H2 (plus L1 D acc2) ∧ LOk C.K (plus L1 D acc2) H2, fun H2 ⟨a, b⟩ => ⟨ds.length - (i + 1), by omega, rfl, a, b⟩, fun v H2 y => ?_⟩
      obtain ⟨g2, l2, rp⟩ := j2 v H2 y
      have key := hs i _ acc D hx hI hDn v (wipe σ vs) H2 (fun σ3 H3 => tt σ3 H3 fun b H4 => if b = true then te σ3 H4 fun y H5 => ∃ acc, H5 D = some (.lst acc) ∧ acc.length < sizeLine ∧ (i + 1 ≤ ds.length ∧ ∃ acc2, acc2.length ≤ i + 1 ∧ I (i + 1) acc2 ∧ Grow H1 L1 (upd H5 D (.lst (acc ++ [y]))) (plus L1 D acc2) ∧ LOk C.K (plus L1 D acc2) (upd H5 D (.lst (acc ++ [y])))) else (i + 1 ≤ ds.length ∧ ∃ acc2, acc2.length ≤ i + 1 ∧ I (i + 1) acc2 ∧ Grow H1 L1 H4 (plus L1 D acc2) ∧ LOk C.K (plus L1 D acc2) H4)) (RW.grow g2 (Keeps.refl _) l2) rp fun ε3 L3 σ3 H3 g3 k3 R3 q3 => ?_
      · have q := ho v (wipe σ vs) H2 _ key
        rw [wipe_wipe] at q
        exact q
      obtain ⟨e3, q3⟩ := q3
      subst e3
      refine q3 σ3 H3 _ R3 exOk0 fun b L4 H4 g4 k4 R4 q4 => ?_
      obtain ⟨e4, q4⟩ := q4
      subst e4
      have gg := g'.trans (g2.trans (g3.trans g4))
      cases b with
      | false =>
        rw [if_neg (by decide)] at q4 ⊢
        exact ⟨hl, acc, Nat.le_succ_of_le hal, q4, gg, R4.led⟩
      | true =>
        rw [if_pos rfl] at q4 ⊢
        refine q4 σ3 H4 _ R4 exOk0 fun w r L5 H5 g5 k5 R5 o5 q5 => ?_
        obtain ⟨e5, yd, er, q5⟩ := q5
        subst e5 er
        obtain ⟨xs, ex, hxs⟩ := R5.led.isLst (List.mem_append_right _ List.mem_cons_self)
        refine ⟨xs, ex, by rw [rpAll_len hxs]; omega, hl, acc ++ [yd], by rw [List.length_append]; exact Nat.succ_le_succ hal, q5, (gg.trans g5).trans grow_app, R5.led.app ex o5⟩
    · have e : i = ds.length := by omega
      subst e
      exact .inl ⟨js rfl, z (.ref D) (.own D) (plus L1 D acc) H' (g1.trans g') (k1.trans keeps_own) (R1.grow g' keeps_own l') ⟨rfl, Led.key plus_mem⟩ (hd acc hI D hDn)⟩
theorem cp_lcFO (f : PyData → Option PyData) (h : CI C wi ε L fun ds L1 => ds.length < sizeLine ∧
      (∀ d ∈ ds, ∀ acc p, p ∉ L1.ks → CG (C0 C.K) g (.dat d) (wipeE ε vs) (plus L1 p acc) fun ε2 L2 => L2 = plus L1 p acc ∧
        CT (C0 C.K) tt ε2 L2 fun b L3 => L3 = plus L1 p acc ∧ if b = true then CP (C0 C.K) te ε2 L3 fun r L4 => L4 = plus L1 p acc ∧ ∃ y, r = .dat y ∧ f d = some y else f d = none) ∧
      ∀ p, p ∉ L1.ks → k (.own p) (plus L1 p (ds.filterMap f))) (ho : GOwn g vs) : CP C (tLc wi g tt te vs) ε L k := by
  refine cp_lcO ?_ ho
  refine fun σ H R Rl X z => h σ H R Rl X fun J ds L' H' g1 k1 R1 J1 ⟨a, b, c⟩ => z J ds L' H' g1 k1 R1 J1 ⟨a, fun i acc => acc = (ds.take i).filterMap f, rfl, fun i d acc p hd hI hp => ?_, fun acc hI => ?_⟩
  · have hm : d ∈ ds := List.mem_of_getElem? hd
    have ht : ds.take (i + 1) = ds.take i ++ [d] := by rw [List.take_add_one, hd] <;> rfl
    intro v σ2 H2 Q2 R2 o2 z2
    refine b d hm acc p hp v σ2 H2 Q2 R2 o2 fun ε3 L3 σ3 H3 g3 k3 R3 ⟨e3, q3⟩ => z2 ε3 L3 σ3 H3 g3 k3 R3 ⟨e3, CT.mono q3 fun bb L4 ⟨e4, q4⟩ => ⟨e4, ?_⟩⟩
    cases bb with
    | true =>
      rw [if_pos rfl] at q4 ⊢
      exact CP.mono q4 fun r L5 ⟨e5, y, er, ey⟩ => ⟨e5, y, er, (by show acc ++ [y] = (ds.take (i + 1)).filterMap f; rw [ht, List.filterMap_append, hI, List.filterMap_cons, ey]; rfl)⟩
    | false =>
      rw [if_neg (by decide)] at q4 ⊢
      show acc = (ds.take (i + 1)).filterMap f
      rw [ht, List.filterMap_append, hI, List.filterMap_cons, q4]
      show _ = _ ++ []
      rw [List.append_nil]
  · have e : acc = (ds.take ds.length).filterMap f := hI
    rw [e, List.take_length]
    exact c
/-! an owned list is looked at as data -/
theorem rel_take {σ : L2.St} {H H1 : Hp} {p : Addr} {ds : List PyData} (R : Rel K (plus L p ds) ε σ H) (hp : p ∉ L.ks) (hL : ∀ q ∈ L, q.2 = Mo.drw) (g : Grow H L H1 L) (l1 : LOk K L H1) : Grow H (plus L p ds) H1 (plus L p ds) ∧ Rel K (plus L p ds) ε σ H1 := by
  have G : Grow H (plus L p ds) H1 (plus L p ds) := ⟨fun a o e n => g.old a o e fun z => n (keeps_own a z), fun a ha => .inl ha⟩
  refine ⟨G, R.grow G (Keeps.refl _) ⟨R.led.nd, fun q hq => ?_⟩⟩
  rcases List.mem_append.mp hq with h | h
  · have o := l1.at_ q h
    have hd := hL q h
    obtain ⟨a, m⟩ := q
    subst hd
    exact o
  · have e := List.mem_singleton.mp h
    subst e
    obtain ⟨ys, e3, e4⟩ := R.led.isLst (plus_mem (L := L) (p := p) (ds := ds))
    exact ⟨ys, g.old p _ e3 hp, rpAll_mono G.ext e4⟩
theorem ct_view {kb : Bool → Led → Prop} {p : Addr} {ds : List PyData} (hp : p ∉ L.ks) (hL : ∀ q ∈ L, q.2 = Mo.drw) (e : EvWk (plus L p ds) L ε ε') (h : CT (C0 C.K) tt ε' L fun b L1 => L1 = L ∧ kb b (plus L p ds)) : CT C tt ε (plus L p ds) kb := fun σ H Q R X z => by
  refine h σ H Q (R.wk wk_plus e) exOk0 fun b L1 H1 g1 k1 R1 q => ?_
  obtain ⟨rfl, q⟩ := q
  obtain ⟨G, R2⟩ := rel_take R hp hL g1 R1.led
  exact z b _ H1 G (Keeps.refl _) R2 q
/-- and in a call that answers yes or no -/
theorem cp_view {p : Addr} {ds : List PyData} (hp : p ∉ L.ks) (hL : ∀ q ∈ L, q.2 = Mo.drw) (e : EvWk (plus L p ds) L ε ε') (h : CP (C0 C.K) te ε' L fun r L1 => L1 = L ∧ ∃ b : Bool, r = .dat (.bool b) ∧ k (.dat (.bool b)) (plus L p ds)) : CP C te ε (plus L p ds) k := fun σ H Q R X z => by
  refine h σ H Q (R.wk wk_plus e) exOk0 fun v r L1 H1 g1 k1 R1 o1 q => ?_
  obtain ⟨rfl, b, rfl, q⟩ := q
  obtain ⟨G, R2⟩ := rel_take R hp hL g1 R1.led
  cases o1
  exact z _ (.dat (.bool b)) _ H1 G (Keeps.refl _) R2 (.bl b) q
/-- a written list is handed out -/
theorem rt_ownK {k : Rs → Led → Prop} {p : Addr} {ds : List PyData} (h : k (.own p) (plus L p ds)) : rtOk L k (.own p) (plus L p ds) := ⟨_, _, wk_refl, .own (Led.key plus_mem), keeps_own, h⟩
theorem rt_ownD {k : Rs → Led → Prop} {p p2 : Addr} {ds : List PyData} {ns : List Nat} (h : k (.own p2) (L ++ [(p2, .drw)])) : rtOk L k (.own p2) (plus (plus L p ds) p2 (ns.map natD)) := by
  refine ⟨_, _, ⟨plus L p2 (ns.map natD), ?_, ?_⟩, .own (Led.key (List.mem_append_right _ List.mem_cons_self)), keeps_own, h⟩
  · exact List.Sublist.append (List.sublist_append_left _ _) (List.Sublist.refl _)
  · have key : ∀ L : Led, Paired (fun p q => q.1 = p.1 ∧ MoLe p.2 q.2) (plus L p2 (ns.map natD)) (L ++ [(p2, .drw)]) := by
      intro L
      induction L with
      | nil => exact .cons ⟨rfl, .drw ns⟩ .nil
      | cons q r ih => exact .cons ⟨rfl, .same _⟩ ih
    exact key L
/-! a text's signs -/
theorem sgn_len (c : Nat) : (⟨#[c]⟩ : Str).length = 1 := rfl
theorem str_of (z : Str) : (⟨z.cps.toList.toArray⟩ : Str) = z := rfl
def ofL (l : List Nat) : Str := ⟨l.toArray⟩
theorem ofL_app (a : List Nat) (c : Nat) : ofL a ++ ofL [c] = ofL (a ++ [c]) := by
  show (⟨a.toArray ++ #[c]⟩ : Str) = ⟨(a ++ [c]).toArray⟩
  congr 1
  simp
theorem ofL_len (a : List Nat) : (ofL a).length = a.length := rfl
end
end Z

set_option Elab.async false
set_option linter.all false
set_option maxRecDepth 100000
set_option maxHeartbeats 2000000
namespace Z
open PySem PySem.Spec PyProof.Rows L2
section
variable {C : Cz} {ε ε' : Ev} {L : Led} {k : Rs → Led → Prop} {wi wi1 : TI} {g g1 : TG} {tt tt1 : TT} {te : TE} {vs vs1 : List Nat} {K : PySem.W.Frag}
/-- over a source that is a map -/
theorem cp_lcM (α : Type) (h : CI C wi ε L fun ds L1 => ds.length < sizeLine ∧ ∃ (l : List α) (g0 : α → PyData) (f : α → Option PyData), ds = l.map g0 ∧
      (∀ x ∈ l, ∀ acc p, p ∉ L1.ks → CG (C0 C.K) g (.dat (g0 x)) (wipeE ε vs) (plus L1 p acc) fun ε2 L2 => L2 = plus L1 p acc ∧
        CT (C0 C.K) tt ε2 L2 fun b L3 => L3 = plus L1 p acc ∧ if b = true then CP (C0 C.K) te ε2 L3 fun r L4 => L4 = plus L1 p acc ∧ ∃ y, r = .dat y ∧ f x = some y else f x = none) ∧
      k (.dat (.list (l.filterMap f))) L1) (ho : GOwn g vs) : CP C (tLc wi g tt te vs) ε L k := by
  refine cp_lc ?_ ho
  refine fun σ H R Rl X z => h σ H R Rl X fun J ds L' H' g1 k1 R1 J1 ⟨a, l, g0, f, el, b, c⟩ => z J ds L' H' g1 k1 R1 J1 ⟨a, fun i acc => acc = (l.take i).filterMap f, rfl, fun i d acc p hd hI hp => ?_, fun acc hI => ?_⟩
  · subst el
    obtain ⟨x, hx, rfl⟩ := map_get hd
    have hm : x ∈ l := List.mem_of_getElem? hx
    have ht : l.take (i + 1) = l.take i ++ [x] := by rw [List.take_add_one, hx] <;> rfl
    intro v σ2 H2 Q2 R2 o2 z2
    refine b x hm acc p hp v σ2 H2 Q2 R2 o2 fun ε3 L3 σ3 H3 g3 k3 R3 ⟨e3, q3⟩ => z2 ε3 L3 σ3 H3 g3 k3 R3 ⟨e3, CT.mono q3 fun bb L4 ⟨e4, q4⟩ => ⟨e4, ?_⟩⟩
    cases bb with
    | true =>
      rw [if_pos rfl] at q4 ⊢
      exact CP.mono q4 fun r L5 ⟨e5, y, er, ey⟩ => ⟨e5, y, er, (by show acc ++ [y] = (l.take (i + 1)).filterMap f; rw [ht, List.filterMap_append, hI, List.filterMap_cons, ey]; rfl)⟩
    | false =>
      rw [if_neg (by decide)] at q4 ⊢
      show acc = (l.take (i + 1)).filterMap f
      rw [ht, List.filterMap_append, hI, List.filterMap_cons, q4]
      show _ = _ ++ []
      rw [List.append_nil]
  · subst el
    have e : acc = (l.take (l.map g0).length).filterMap f := hI
    rw [e, List.length_map, List.take_length]
    exact c
theorem cp_lcMO (α : Type) (h : CI C wi ε L fun ds L1 => ds.length < sizeLine ∧ ∃ (l : List α) (g0 : α → PyData) (f : α → Option PyData), ds = l.map g0 ∧
      (∀ x ∈ l, ∀ acc p, p ∉ L1.ks → CG (C0 C.K) g (.dat (g0 x)) (wipeE ε vs) (plus L1 p acc) fun ε2 L2 => L2 = plus L1 p acc ∧
        CT (C0 C.K) tt ε2 L2 fun b L3 => L3 = plus L1 p acc ∧ if b = true then CP (C0 C.K) te ε2 L3 fun r L4 => L4 = plus L1 p acc ∧ ∃ y, r = .dat y ∧ f x = some y else f x = none) ∧
      ∀ p, p ∉ L1.ks → k (.own p) (plus L1 p (l.filterMap f))) (ho : GOwn g vs) : CP C (tLc wi g tt te vs) ε L k := by
  refine cp_lcO ?_ ho
  refine fun σ H R Rl X z => h σ H R Rl X fun J ds L' H' g1 k1 R1 J1 ⟨a, l, g0, f, el, b, c⟩ => z J ds L' H' g1 k1 R1 J1 ⟨a, fun i acc => acc = (l.take i).filterMap f, rfl, fun i d acc p hd hI hp => ?_, fun acc hI => ?_⟩
  · subst el
    obtain ⟨x, hx, rfl⟩ := map_get hd
    have hm : x ∈ l := List.mem_of_getElem? hx
    have ht : l.take (i + 1) = l.take i ++ [x] := by rw [List.take_add_one, hx] <;> rfl
    intro v σ2 H2 Q2 R2 o2 z2
    refine b x hm acc p hp v σ2 H2 Q2 R2 o2 fun ε3 L3 σ3 H3 g3 k3 R3 ⟨e3, q3⟩ => z2 ε3 L3 σ3 H3 g3 k3 R3 ⟨e3, CT.mono q3 fun bb L4 ⟨e4, q4⟩ => ⟨e4, ?_⟩⟩
    cases bb with
    | true =>
      rw [if_pos rfl] at q4 ⊢
      exact CP.mono q4 fun r L5 ⟨e5, y, er, ey⟩ => ⟨e5, y, er, (by show acc ++ [y] = (l.take (i + 1)).filterMap f; rw [ht, List.filterMap_append, hI, List.filterMap_cons, ey]; rfl)⟩
    | false =>
      rw [if_neg (by decide)] at q4 ⊢
      show acc = (l.take (i + 1)).filterMap f
      rw [ht, List.filterMap_append, hI, List.filterMap_cons, q4]
      show _ = _ ++ []
      rw [List.append_nil]
  · subst el
    have e : acc = (l.take (l.map g0).length).filterMap f := hI
    rw [e, List.length_map, List.take_length]
    exact c
theorem ct_yes {kb : Bool → Led → Prop} (q : kb true L) : CT C tYes ε L kb := fun σ H Q R X z => z true L H (Grow.refl H L) (Keeps.refl L) R q
end
/-- both ways lead on from J -/
theorem hs_join {C : Cz} {ε : Ev} {L : Led} {t u : TS} {P : Post} {b : Bool} (J : Ev → Led → Prop) (h : if b = true then HS C t ε L { P with nx := J } else HS C u ε L { P with nx := J }) (h2 : ∀ e l, J e l → P.nx e l) : if b = true then HS C t ε L P else HS C u ε L P := by
  cases b with
  | true =>
    rw [if_pos rfl] at h ⊢
    exact h.mono h2 (fun _ _ z => z) (fun _ _ z => z) fun _ _ z => z
  | false =>
    rw [if_neg (by decide)] at h ⊢
    exact h.mono h2 (fun _ _ z => z) (fun _ _ z => z) fun _ _ z => z
theorem fm_bool {α : Type} (g : α → Bool) : ∀ l : List α, l.filterMap (fun c => some (PyData.bool (g c))) = (l.map g).map PyData.bool
  | [] => rfl
  | a :: r => by
    rw [List.filterMap_cons, List.map_cons, List.map_cons, ← fm_bool g r]
theorem fm_int {α : Type} (g : α → Int) : ∀ l : List α, l.filterMap (fun c => some (PyData.int (g c))) = (l.map g).map PyData.int
  | [] => rfl
  | a :: r => by
    rw [List.filterMap_cons, List.map_cons, List.map_cons, ← fm_int g r]
theorem fm_str {α : Type} (g : α → Str) : ∀ l : List α, l.filterMap (fun c => some (PyData.str (g c))) = (l.map g).map PyData.str
  | [] => rfl
  | a :: r => by
    rw [List.filterMap_cons, List.map_cons, List.map_cons, ← fm_str g r]
/-- those that pass -/
theorem fm_if {α β : Type} (p : α → Bool) (g : α → β) : ∀ l : List α, l.filterMap (fun c => if p c = true then some (g c) else none) = (l.filter p).map g
  | [] => rfl
  | a :: r => by
    rw [List.filterMap_cons, List.filter_cons]
    cases h : p a with
    | true =>
      rw [if_pos rfl, if_pos rfl, List.map_cons, ← fm_if p g r]
    | false =>
      rw [if_neg (by decide), if_neg (by decide), fm_if p g r]
/-! the same rules, where the place's constants are named -/
section
variable {X : Cx} {K : PySem.W.Frag}
theorem opK {o : Value → Value → Sem Value} {r : PySem.W.Frag → R2} (h : OpR X o (r X.K)) (e : X.K = K) : OpR X o (r K) := e ▸ h
theorem ixK {r : PySem.W.Frag → R2} (h : IxR X (r X.K)) (e : X.K = K) : IxR X (r K) := e ▸ h
theorem callK {f : Value} {r : PySem.W.Frag → List V → Hp → VK → Prop} (h : CallR X f (r X.K)) (e : X.K = K) : CallR X f (r K) := e ▸ h
theorem mtK {m : String} {r : PySem.W.Frag → V → List V → Hp → VK → Prop} (h : MtR X m (r X.K)) (e : X.K = K) : MtR X m (r K) := e ▸ h
theorem pg_tupK {es : List Expr} {k : Nat} {t : TGs} {n : Nat} {pos : Pos} (e : X.K = K) (hc : X.calm = true) (h : PGs X es t)
    (hn : (assignEach es X.env).length = n := by rfl) (hst : (assignEach es X.env).findIdx? (·.1) = none := by rfl) : PG X (.Tuple es k pos) (gTup K n t) := by
  subst e
  exact pg_tup hc h hn hst
theorem pi_sqK {tg e : Expr} {te : TE} (ek : X.K = K) (he : PE X e te) : PI X tg e (iSq K te) := by
  subst ek
  exact pi_sq he
theorem pi_enK {e : Expr} {ta : TA} {p pos tpos : Pos} {elts : List Expr} {kk : Nat} (ek : X.K = K) (hg : Gl X "enumerate") (hm : X.mg "enumerate" = none) (ha : PA X [e] ta) (hs : starEach [e] X.env = [(false, eval e X.env)] := by rfl) :
    PI X (.Tuple elts kk tpos) (.Call (.Name "enumerate" p) [e] [] pos) (iEn K ta) := by
  subst ek
  exact pi_en hg hm ha hs
theorem pi_zpK {e e2 : Expr} {ta : TA} {p pos tpos : Pos} {elts : List Expr} {kk : Nat} (ek : X.K = K) (hg : Gl X "zip") (hm : X.mg "zip" = none) (ha : PA X [e, e2] ta)
    (hs : starEach [e, e2] X.env = (false, eval e X.env) :: starEach [e2] X.env := by rfl) (hpl : (backTo pos (starEach [e2] X.env)).any (·.1) = false := by rfl) :
    PI X (.Tuple elts kk tpos) (.Call (.Name "zip" p) [e, e2] [] pos) (iZp K ta) := by
  subst ek
  exact pi_zp hg hm ha hs hpl
theorem pe_bm0K {T : String} {name : Str} {id : String} {r : V → List V → Hp → VK → Prop} {o : Expr} {tO : TE} {apos cpos : Pos} (ek : X.K = K) (pa : PlainAttrs T) (slot : Slot T name id) (hty : typeOf (.builtin id) = pure (.type "method_descriptor")) (hm : MtR X id r) (ho : PE X o tO)
    (hbase : attributeBase o name X.env (eval o X.env) = eval o X.env := by rfl) (hline : (apos.endLine == cpos.line) = true := by rfl) : PE X (.Call (.Attribute o name apos) [] [] cpos) (tBM0 K T r tO) := by
  subst ek
  exact pe_bm0 pa slot hty hm ho hbase hline
theorem pe_bmK {T : String} {name : Str} {id : String} {r : V → List V → Hp → VK → Prop} {o e : Expr} {es : List Expr} {tO : TE} {t : TA} {apos cpos : Pos} (ek : X.K = K) (pa : PlainAttrs T) (slot : Slot T name id) (hty : typeOf (.builtin id) = pure (.type "method_descriptor")) (hm : MtR X id r) (ho : PE X o tO) (ha : PA X (e :: es) t)
    (hbase : attributeBase o name X.env (eval o X.env) = eval o X.env := by rfl)
    (hfew : ((backTo cpos (starEach (e :: es) X.env)).all (fun x => !x.1) && (backToKw cpos (keywordEach [] X.env)).all (fun x => x.1.isSome)
      && decide ((e :: es).length + ([] : List Keyword).length + (if ([] : List Keyword).isEmpty then 0 else 1) < 30)) = true := by rfl)
    (hline : (apos.endLine == cpos.line) = true := by rfl) (hs : starEach (e :: es) X.env = (false, eval e X.env) :: starEach es X.env := by rfl) (hplain : (backTo cpos (starEach es X.env)).any (·.1) = false := by rfl) :
    PE X (.Call (.Attribute o name apos) (e :: es) [] cpos) (tBM K T r tO t) := by
  subst ek
  exact pe_bm pa slot hty hm ho ha hbase hfew hline hs hplain
end
end Z

set_option Elab.async false
set_option linter.all false
set_option maxRecDepth 100000
set_option maxHeartbeats 2000000
namespace Z
open PySem PySem.Spec PyProof.Rows L2
/-- a class of errors of the text's own, with no __init__ of its own -/
structure ErrAt (K : PySem.W.Frag) (mg : Str → Option Value) (x : Str) (C : Addr) : Prop where
  g : mg x = some (.ref C)
  x : PySem.W.excIn K C [.type "ValueError", .type "Exception", .type "BaseException", .type "object"] "ValueError.__new__" = true
  k : PySem.W.keepIn K (.ref C) = true
  s1 : PySem.W.subIn K (.ref C) (.type "BaseException") = some true
  s2 : PySem.W.typeIn K (.ref C) = some (.type "type")
/-- what an error of the class D answers to isinstance, class by class -/
def FlagsAt (K : PySem.W.Frag) (D : Addr) (cs : List Addr) (bs : List Bool) : Prop := ExcC K D ∧ Paired (fun c b => PySem.W.kitOne K (.ref D) (.ref c) = some b) cs bs
/-- a def that keeps its promise where an error is caught -/
def HasQ (P : Program) (w : World) (K : PySem.W.Frag) (mg : Str → Option Value) (base : Heap) (k : Nat) (x : Str) (ps : List Str) (sp : Addr → Addr → Sp) : Prop :=
  ∃ f fd, mg x = some (.ref f) ∧ PySem.W.keepIn K (.ref f) = true ∧ Binds K fd ps [] ∧ FnQ P w K mg base k f fd ps sp
/-- what _law_same takes: n deep -/
def okD : Nat → PyData → Prop
  | _, .dict _ => False
  | 0, .list _ => False
  | 0, .tuple _ => False
  | n + 1, .list ds => ds.length ≤ 1000000 ∧ ∀ d ∈ ds, okD n d
  | n + 1, .tuple ds => ds.length ≤ 1000000 ∧ ∀ d ∈ ds, okD n d
  | _, _ => True
theorem okD_str : ∀ (n : Nat) (x : Str), okD n (.str x)
  | 0, _ => trivial
  | _ + 1, _ => trivial
theorem okD_int : ∀ (n : Nat) (x : Int), okD n (.int x)
  | 0, _ => trivial
  | _ + 1, _ => trivial
theorem okD_bool : ∀ (n : Nat) (x : Bool), okD n (.bool x)
  | 0, _ => trivial
  | _ + 1, _ => trivial
theorem okD_none : ∀ (n : Nat), okD n .none
  | 0 => trivial
  | _ + 1 => trivial
def dSame : Nat → DSp
  | 0 => fun _ _ _ _ => False
  | n + 1 => fun rs L k _ => ∃ d, rs = [.dat d, .dat d] ∧ okD n d ∧ k (.dat (.bool true)) L
section
variable {C : Cz} {ε : Ev} {L : Led} {k : Rs → Led → Prop} {K : PySem.W.Frag}
theorem cp_join {b : Bool} {ta tb : TE} (J : Rs → Led → Prop) (h : if b = true then CP C ta ε L J else CP C tb ε L J) (h2 : ∀ r l, J r l → k r l) : if b = true then CP C ta ε L k else CP C tb ε L k := by
  cases b with
  | true =>
    rw [if_pos rfl] at h ⊢
    exact h.mono h2
  | false =>
    rw [if_neg (by decide)] at h ⊢
    exact h.mono h2
theorem ct_join {b : Bool} {tt : TT} {kb : Bool → Led → Prop} (J : Bool → Led → Prop) (h : if b = true then CT C tt ε L J else J false L) (h2 : ∀ b l, J b l → kb b l) : if b = true then CT C tt ε L kb else kb false L := by
  cases b with
  | true =>
    rw [if_pos rfl] at h ⊢
    exact h.mono h2
  | false =>
    rw [if_neg (by decide)] at h ⊢
    exact h2 _ _ h
theorem od_same (d : PyData) (h : ∀ ds, d ≠ .list ds) (h2 : ∀ ds, d ≠ .tuple ds) (h3 : ∀ ds, d ≠ .dict ds) (h4 : d ≠ .none) (q : k (.dat (.bool true)) L) : OD C (rEqZ K) (.dat d) (.dat d) L k := by
  cases d with
  | none => exact absurd rfl h4
  | bool b => exact od_eq_bool (by rw [beq_self_eq_true]; exact q)
  | int b => exact od_eq_int (by rw [beq_self_eq_true]; exact q)
  | str b => exact od_eq_str (by rw [beq_self_eq_true]; exact q)
  | list b => exact absurd rfl (h _)
  | tuple b => exact absurd rfl (h2 _)
  | dict b => exact absurd rfl (h3 _)
end
inductive OW (L' M2 : Led) : Option Rs → Option Rs → Prop
  | no (o : Option Rs) : OW L' M2 o none
  | mk {r r2 : Rs} (h : RsWk L' M2 r r2) : OW L' M2 (some r) (some r2)
theorem evwk_mk {L' M2 : Led} : ∀ {ε ε2 : Ev}, Paired (OW L' M2) ε ε2 → EvWk L' M2 ε ε2
  | _, _, .nil => ⟨rfl, fun i r2 h => by simp at h⟩
  | _, _, .cons (a := o) (b := o2) h t => by
    obtain ⟨e1, e2⟩ := evwk_mk t
    refine ⟨by rw [List.length_cons, List.length_cons, e1], fun i r2 hr => ?_⟩
    cases i with
    | zero =>
      have hr : o2 = some r2 := by simpa using hr
      subst hr
      cases h with
      | mk h => exact ⟨_, rfl, h⟩
    | succ i =>
      obtain ⟨r, a, b⟩ := e2 i r2 (by simpa using hr)
      exact ⟨r, by simpa using a, b⟩
theorem EvWk.set {L' M2 : Led} {ε ε2 : Ev} (h : EvWk L' M2 ε ε2) (i : Nat) (d : PyData) : EvWk L' M2 (ε.set i (some (.dat d))) (ε2.set i (some (.dat d))) := by
  refine ⟨by rw [List.length_set, List.length_set, h.1], fun j r2 hr => ?_⟩
  by_cases e : i = j
  · subst e
    by_cases hl : i < ε2.length
    · rw [List.getElem?_set_self hl] at hr
      cases hr
      exact ⟨_, by rw [List.getElem?_set_self (by rw [h.1]; exact hl)], .dat d⟩
    · rw [List.getElem?_eq_none (by rw [List.length_set]; omega)] at hr
      cases hr
  · rw [List.getElem?_set_ne e] at hr
    obtain ⟨r, a, b⟩ := h.2 j r2 hr
    exact ⟨r, by rw [List.getElem?_set_ne e]; exact a, b⟩
theorem roomQ {j k : Nat} {A : Around} {v : Option Value} (r : Room k A) (h : j ≤ k) : L2H.RoomH j (A.mark v) := ⟨(r.mono h).dp, (r.mono h).un⟩
end Z

set_option Elab.async false
set_option linter.all false
set_option maxRecDepth 100000
set_option maxHeartbeats 2000000
namespace Z
open PySem PySem.Spec PyProof.Rows L2
/-! the head's facts, as the walks want them -/
section
variable {K : PySem.W.Frag} {h : Heap} {mg : Str → Option Value}
theorem fun_of {x qual : Str} {st : Stmt} {f : Addr} {fd : FuncData} (F : FunD K x qual (defArgs st) (defBody st) (defScope st) [] [] f fd) : Fun K x qual st f fd := by
  obtain ⟨oc, od, dV, kV, doc, pm, an, cdv, ct, osl, e, lk, hcd, hd, _⟩ := F.ex
  rcases hd with ⟨_, e2⟩ | ⟨e2, _⟩
  · subst e2
    exact ⟨⟨oc, od, kV, doc, pm, an, cdv, ct, osl, e, lk, hcd⟩, F.kp⟩
  · exact absurd rfl e2
def excB (K : PySem.W.Frag) (C : Addr) : Bool :=
  He.eqO (PySem.W.findIn K (.ref C) "__getattribute__") (some (some (.builtin "BaseException.__getattribute__"))) && (He.eqO (PySem.W.findIn K (.ref C) "__getattr__") (some none) && (decide (PySem.W.subIn K (.ref C) (.type "BaseException") = some true) &&
  (PySem.W.hasDictIn K C && (He.eqO (PySem.W.findIn K (.ref C) "__class__") (some (some (.builtin "object.__class__"))) && (He.eqO (PySem.W.specialIn K (.builtin "object.__class__") "__get__") (some (some (.builtin "getset_descriptor.__get__"))) &&
  (decide (PySem.W.takesIn K (.builtin "object.__class__") = some true) && decide (PySem.W.mroIn K C (.type "object") = some true)))))))
theorem excB_ok {C : Addr} (c : excB K C = true) : ExcC K C := by
  obtain ⟨c1, c⟩ := He.ba c
  obtain ⟨c2, c⟩ := He.ba c
  obtain ⟨c3, c⟩ := He.ba c
  obtain ⟨c4, c⟩ := He.ba c
  obtain ⟨c5, c⟩ := He.ba c
  obtain ⟨c6, c⟩ := He.ba c
  obtain ⟨c7, c8⟩ := He.ba c
  exact ⟨He.eqO_ok c1, He.eqO_ok c2, of_decide_eq_true c3, c4, He.eqO_ok c5, He.eqO_ok c6, of_decide_eq_true c7, of_decide_eq_true c8⟩
def flagsB (K : PySem.W.Frag) (x : Str) (cs : List (Str × Bool)) : Bool := excB K (He.ga K x) && cs.all fun p => decide (PySem.W.kitOne K (.ref (He.ga K x)) (.ref (He.ga K p.1)) = some p.2)
theorem flags_ok {x : Str} {cs : List (Str × Bool)} (c : flagsB K x cs = true) : FlagsAt K (He.ga K x) (cs.map fun p => He.ga K p.1) (cs.map Prod.snd) := by
  obtain ⟨c1, c2⟩ := He.ba c
  refine ⟨excB_ok c1, ?_⟩
  clear c c1
  induction cs with
  | nil => exact .nil
  | cons p r ih =>
    rw [List.all_cons] at c2
    obtain ⟨c3, c4⟩ := He.ba c2
    exact .cons (of_decide_eq_true c3) (ih c4)
theorem err_ok (X : K.In h) (G : h.Ns mainGlobals mg) {x : Str} (c : (He.Fa.exc x).ok K = true) (g : (He.Fa.glo x).ok K = true) : ErrAt K mg x (He.ga K x) := by
  obtain ⟨c1, c2, c3, c4⟩ := He.exc_ok c
  exact ⟨He.glo_ok X G g, c1, c2, c3, c4⟩
end
theorem law_start {K : PySem.W.Frag} (d : DSp) {H : Hp} {a : Addr} {ns : List Int} (hd : ∀ (k : Rs → Led → Prop) (x : Addr → Led → Prop), k (.dat (.bool true)) [] → d [.scr ns] [] k x) (hS : SqL K H a (ns.map V.int)) : lift K d [.ref a] H (fun v _ => v = .bl true) fun _ _ _ => False := by
  refine ⟨[.scr ns], [], fun r _ => r = .dat (.bool true), fun _ _ => False, .cons ⟨a, rfl, ?_⟩ .nil, ⟨List.nodup_nil, fun _ h => nomatch h⟩, hd _ _ rfl, fun v r L' H' _ _ _ o e => ?_, fun _ _ _ _ _ _ f => f⟩
  · have e : hid [] H = H := funext fun b => hid_out (fun h => nomatch h)
    rw [e]
    exact hS
  · subst e
    cases o
    rfl
end Z

set_option Elab.async false
set_option linter.all false
set_option maxRecDepth 100000
set_option maxHeartbeats 2000000
/-! tuples: slices, sums, greatest items, stars; two and three stores at once -/
namespace PySem
section
variable {prog : Program} {w : World} {A : Around} {E : Value → Shared → Prop} {s : Shared} {l : Addr} {xs : Array (Int × Tok)}
theorem zt_iter {Q : Value → Shared → Prop} (hl : s.heap.IsTuple l (intItems xs))
    (h : ∀ s₂ : Shared, s₂ = { s with heap := s.heap.push { cls := .type "tuple_iterator", data := .fields #[.ref l, .int 0 0] } } → (s₂.heap.IsTupleIter s.heap.objs.size l 0 ∧ s₂.heap.IsTuple l (intItems xs)) →
      (∀ b ∈ [s.heap.objs.size, l], b < s₂.heap.objs.size) → l ≠ s.heap.objs.size → Q (.ref s.heap.objs.size) s₂) : wpAny (model prog w) A (pyIter (.ref l)) Q E s := by
  have old : l < s.heap.objs.size := by
    obtain ⟨_, e, _⟩ := hl
    exact Heap.lt_size e
  refine wpAny_pyIter_tuple hl (h _ rfl ⟨⟨_, Heap.get?_push_size _ rfl, rfl, rfl⟩, hl.push _⟩ (fun b hb => ?_) (Nat.ne_of_lt old))
  have sz : (s.heap.push { cls := .type "tuple_iterator", data := .fields #[.ref l, .int 0 0] }).objs.size = s.heap.objs.size + 1 := Heap.size_push _ _
  show b < (s.heap.push { cls := .type "tuple_iterator", data := .fields #[.ref l, .int 0 0] }).objs.size
  rw [sz]
  rcases List.mem_cons.mp hb with hb | hb
  · rw [hb]
    exact Nat.lt_succ_self _
  · rw [List.mem_singleton.mp hb]
    exact Nat.lt_succ_of_lt old
theorem zt_old {h' : Heap} (hk : ∀ b o, b ∉ [s.heap.objs.size] → (s.heap.push { cls := .type "tuple_iterator", data := .fields #[.ref l, .int 0 0] }).get? b = some o → h'.get? b = some o) : ∀ b o, s.heap.get? b = some o → h'.get? b = some o := fun b o e =>
  hk b o (fun z => Nat.lt_irrefl _ (List.mem_singleton.mp z ▸ Heap.lt_size e)) (Heap.get?_push_of_some _ e)
theorem zt_sum {Q : Value → Shared → Prop} (hh : A.handled = none) (hl : s.heap.IsTuple l (intItems xs)) (h : ∀ h' tk t', (∀ b o, s.heap.get? b = some o → h'.get? b = some o) → Q (.int (preSum (numAt xs) xs.size) t') { s with heap := h', toks := tk }) :
    wpAny (model prog w) A (call (.builtin "sum") [.ref l]) Q E s := by
  refine call_sum_walkG (zt_iter hl fun s₂ e st hfp hne => ?_)
  subst e
  refine ⟨_, _, _, _, _, _, numAt xs, rfl, Walks.tuple (A := A.in1) hh _ l hne (intItems xs), st, hfp, (fun i v hv => intItems_at hv), fun h' tk t' hk => ?_⟩
  have q := h h' tk t' (zt_old hk)
  simpa [intItems] using q
theorem zt_max {Q : Value → Shared → Prop} (hh : A.handled = none) (hl : s.heap.IsTuple l (intItems xs)) (hne : 0 < xs.size)
    (h : ∀ v h' tk, (intItems xs)[argBest (fun i j => decide (numAt xs i > numAt xs j)) (xs.size - 1)]? = some v → (∀ b o, s.heap.get? b = some o → h'.get? b = some o) → Q v { s with heap := h', toks := tk }) : wpAny (model prog w) A (call (.builtin "max") [.ref l]) Q E s := by
  refine call_max_walk (zt_iter hl fun s₂ e st hfp hli => ?_)
  subst e
  exact ⟨_, _, _, _, _, _, _, rfl, Walks.tuple (A := A.in1) hh _ l hli (intItems xs), st, hfp, by simpa [intItems] using hne, CmpOf.ints_gt (numAt xs) (fun i v hv => intItems_at hv), fun v h' tk hP hk => h v h' tk (by simpa [intItems] using hP) (zt_old hk)⟩
end
end PySem
namespace Z
open PySem PySem.Spec PyProof.Rows L2
section
variable {prog : Program} {w : World} {A : Around} {E : Value → Shared → Prop} {s : Shared} {l : Addr} {its : List Value} {ns : List Int} {Q : Value → Shared → Prop}
theorem zt_sumR (hh : A.handled = none) (hl : s.heap.IsTuple l its.toArray) (hi : IntsAre its ns) (h : ∀ h' tk t', (∀ b o, s.heap.get? b = some o → h'.get? b = some o) → Q (.int ns.sum t') { s with heap := h', toks := tk }) : wpAny (model prog w) A (call (.builtin "sum") [.ref l]) Q E s := by
  have hn := hi.numsOf
  obtain ⟨xs, e⟩ := hi.allInts.items
  rw [e] at hl
  refine zt_sum hh hl fun h' tk t' hk => ?_
  have q := h h' tk t' hk
  have hn2 : numsOf (intItems xs).toList = ns := by
    rw [← e]
    exact hn
  rw [nums_intItems] at hn2
  rw [preSum_eq, List.take_of_length_le (by simp), hn2]
  exact q
theorem zt_maxR (hh : A.handled = none) (hl : s.heap.IsTuple l its.toArray) (hi : IntsAre its ns) (hne : 0 < ns.length)
    (h : ∀ h' tk M t', (∀ b o, s.heap.get? b = some o → h'.get? b = some o) → M ∈ ns → (∀ a, a ∈ ns → a ≤ M) → Q (.int M t') { s with heap := h', toks := tk }) : wpAny (model prog w) A (call (.builtin "max") [.ref l]) Q E s := by
  have hn := hi.numsOf
  obtain ⟨xs, e⟩ := hi.allInts.items
  rw [e] at hl
  have hn2 : numsOf (intItems xs).toList = ns := by
    rw [← e]
    exact hn
  rw [nums_intItems] at hn2
  subst hn2
  have hz : 0 < xs.size := by simpa using hne
  refine zt_max hh hl hz fun v h' tk hv hk => ?_
  obtain ⟨t, rfl⟩ := intItems_at hv
  obtain ⟨h1, h2⟩ := argBest_gt (numAt xs) (xs.size - 1)
  refine h h' tk _ t hk ?_ fun a ha => ?_
  · rw [numAt_eq]
    refine PySem.getD_mem ?_
    rw [List.length_map, Array.length_toList]
    omega
  · obtain ⟨j, hj, e2⟩ := mem_getD ha
    rw [List.length_map, Array.length_toList] at hj
    rw [← e2, ← numAt_eq]
    exact h2 j (by omega)
end
/-- sum and max, lists and tuples -/
def rSumZ (K : PySem.W.Frag) : List V → Hp → VK → Prop := fun vs H Q => rSum K vs H Q ∨ ∃ (a : Addr) (ns : List Int), vs = [V.ref a] ∧ SqT K H a (ns.map V.int) ∧ Q (.int ns.sum) H
theorem call_sumZ {X : Cx} (hc : X.calm = true) : CallR X (.builtin "sum") (rSumZ X.K) := (cr_sum hc).or fun pins s σ H vs us Q I r h => by
  obtain ⟨a, ns, rfl, hs, q⟩ := h
  obtain ⟨its, rv, hl, _⟩ := I.tuple hs
  rw [Vals.ref1 r]
  exact zt_sumR (I.ok.hd hc) hl rv.ints fun h' tk t' hk => ⟨.int _, H, I.kept hk, ⟨_, rfl⟩, q⟩
def rMaxZ (K : PySem.W.Frag) : List V → Hp → VK → Prop := fun vs H Q => (rMax K vs H Q ∨ ∃ (a : Addr) (ns : List Int), vs = [V.ref a] ∧ SqT K H a (ns.map V.int) ∧ 0 < ns.length ∧ ∀ m, m ∈ ns → (∀ y, y ∈ ns → y ≤ m) → Q (.int m) H) ∨ ∃ i j, vs = [.int i, .int j] ∧ Q (.int (if j > i then j else i)) H
theorem call_maxZ {X : Cx} (hc : X.calm = true) : CallR X (.builtin "max") (rMaxZ X.K) := ((cr_max hc).or fun pins s σ H vs us Q I r h => by
  obtain ⟨a, ns, rfl, hs, hne, q⟩ := h
  obtain ⟨its, rv, hl, _⟩ := I.tuple hs
  rw [Vals.ref1 r]
  exact zt_maxR (I.ok.hd hc) hl rv.ints hne fun h' tk m t' hk h1 h2 => ⟨.int _, H, I.kept hk, ⟨_, rfl⟩, q m h1 h2⟩).or (call_max2 hc)
/-! slices -/
def cutD {α : Type} (ds : List α) (lo hi : Option Int) : List α := (ds.drop (HT.sIx ds.length 0 lo)).take (HT.sIx ds.length ds.length hi - HT.sIx ds.length 0 lo)
theorem cut_whole {α : Type} {ds : List α} {lo hi : Option Int} (h : HT.sIx ds.length 0 lo = 0 ∧ HT.sIx ds.length ds.length hi = ds.length) : cutD ds lo hi = ds := by
  unfold cutD
  rw [h.1, h.2, List.drop_zero, Nat.sub_zero, List.take_length]
def rSlZ (K : PySem.W.Frag) : V → Option Int → Option Int → Hp → VK → Prop := fun x lo hi H Q => rSlA K x lo hi H Q ∨ rSlL K x lo hi H Q ∨ rSlS x lo hi H Q
theorem sl_Z {X : Cx} : SlR X (rSlZ X.K) := sl_tupA.or (sl_list.or sl_str)
def CO (C : Cz) (t : TO) (ε : Ev) (L : Led) (q : Option Int → Led → Prop) : Prop :=
  ∀ (σ : L2.St) (H : Hp) (Q : Option Int → Hp → Prop), Rel C.K L ε σ H → ExOk C L H → (∀ o L' H', Grow H L H' L' → Keeps L L' → Rel C.K L' ε σ H' → q o L' → Q o H') → t σ H Q
def SD (C : Cz) (r : V → Option Int → Option Int → Hp → VK → Prop) (x : Rs) (lo hi : Option Int) (L : Led) (k : Rs → Led → Prop) : Prop :=
  ∀ (v : V) (H : Hp) (Q : VK), LOk C.K L H → RsOk C.K L H v x → (∀ z s L' H', Grow H L H' L' → Keeps L L' → LOk C.K L' H' → RsOk C.K L' H' z s → k s L' → Q z H') → r v lo hi H Q
section
variable {C : Cz} {ε : Ev} {L : Led} {k : Rs → Led → Prop} {K : PySem.W.Frag} {te ta tb tc : TE} {tA : TA} {P : Post} {tl th : TO}
theorem co_none {q : Option Int → Led → Prop} (h : q none L) : CO C tNoPart ε L q := fun σ H Q R X z => z none L H (Grow.refl H L) (Keeps.refl L) R h
theorem co_some {q : Option Int → Led → Prop} (h : CP C te ε L fun r L1 => ∃ i, r = .dat (.int i) ∧ q (some i) L1) : CO C (tPart te) ε L q := fun σ H Q R X z =>
  h σ H _ R X fun v x L1 H1 g1 k1 R1 o1 ⟨i, e, q⟩ => by
    subst e
    cases o1
    exact ⟨i, rfl, z (some i) L1 H1 g1 k1 R1 q⟩
theorem cp_sl {r : V → Option Int → Option Int → Hp → VK → Prop} (h : CP C te ε L fun x L1 => CO C tl ε L1 fun lo L2 => CO C th ε L2 fun hi L3 => SD C r x lo hi L3 k) : CP C (tSl r te tl th) ε L k := fun σ H Q R X z =>
  h σ H _ R X fun v x L1 H1 g1 k1 R1 o1 h1 => h1 σ H1 _ R1 (X.grow g1) fun lo L2 H2 g2 k2 R2 h2 => h2 σ H2 _ R2 ((X.grow g1).grow g2) fun hi L3 H3 g3 k3 R3 h3 =>
    h3 v H3 Q R3.led ((o1.grow g2 k2).grow g3 k3) fun u s L4 H4 g4 k4 l4 o4 q => z u s L4 H4 (((g1.trans g2).trans g3).trans g4) (((k1.trans k2).trans k3).trans k4) (R3.grow g4 k4 l4) o4 q
theorem rpAll_cut {H : Hp} {xs : List V} {ds : List PyData} (h : RpAll K H xs ds) (lo hi : Option Int) : RpAll K H (cutV xs lo hi) (cutD ds lo hi) := by
  unfold cutV cutD
  rw [rpAll_len h]
  exact rpAll_take _ (rpAll_drop _ h)
theorem sd_tup {ds : List PyData} {lo hi : Option Int} (q : k (.dat (.tuple (cutD ds lo hi))) L) (hK : C.K = K := by rfl) : SD C (rSlZ K) (.dat (.tuple ds)) lo hi L k := fun v H Q l o f => by
  subst hK
  have o' : Rp C.K (hid L H) v (.tuple ds) := o
  cases o' with
  | @tup p xs _ e ha =>
    refine .inl ⟨p, xs, rfl, ext_t hid_sub e, fun hw => ?_, fun hw a ha2 => ?_⟩
    · rw [rpAll_len ha] at hw
      rw [cut_whole hw] at q
      exact f _ (.dat (.tuple ds)) L H (Grow.refl H L) (Keeps.refl L) l o q
    · have g : Grow H L (upd H a (.tup (cutV xs lo hi))) L := grow_new ha2
      exact f _ (.dat (.tuple (cutD ds lo hi))) L _ g (Keeps.refl L) (l.new ha2) (.tup (SqT.of (by rw [hid_out (l.fresh ha2)]; exact upd_same)) (rpAll_mono g.ext (rpAll_cut ha lo hi))) q
theorem sd_lst {ds : List PyData} {lo hi : Option Int} (q : k (.dat (.list (cutD ds lo hi))) L) : SD C (rSlZ K) (.dat (.list ds)) lo hi L k := fun v H Q l o f => by
  have o' : Rp C.K (hid L H) v (.list ds) := o
  cases o' with
  | @lst p xs _ e ha =>
    refine .inr (.inl ⟨p, xs, rfl, SqL.of (hid_sub _ _ e), fun a ha2 => ?_⟩)
    have g : Grow H L (upd H a (.lst (cutV xs lo hi))) L := grow_new ha2
    exact f _ (.dat (.list (cutD ds lo hi))) L _ g (Keeps.refl L) (l.new ha2) (.lst (by rw [hid_out (l.fresh ha2)]; exact upd_same) (rpAll_mono g.ext (rpAll_cut ha lo hi))) q
theorem sd_str {z : Str} {lo hi : Option Int} (hz : z.length ≤ sizeLine) (q : k (.dat (.str ⟨(cutD z.cps.toList lo hi).toArray⟩)) L) : SD C (rSlZ K) (.dat (.str z)) lo hi L k := fun v H Q l o f => by
  have o' : Rp C.K (hid L H) v (.str z) := o
  cases o'
  refine .inr (.inr ⟨z, rfl, hz, ?_⟩)
  have e : cutS z lo hi = ⟨(cutD z.cps.toList lo hi).toArray⟩ := by
    unfold cutD
    rw [Array.length_toList]
    rfl
  rw [e]
  exact f _ (.dat (.str _)) L H (Grow.refl H L) (Keeps.refl L) l (.str _) q
/-! stars -/
theorem star_rs {H : Hp} : ∀ {vs : List V} {ds : List PyData}, RpAll K (hid L H) vs ds → ∀ {ws : List V} {ys : List Rs}, RsAll K L H ws ys → RsAll K L H (vs ++ ws) (ds.map Rs.dat ++ ys)
  | _, _, .nil, _, _, s => s
  | _, _, .cons h t, _, _, s => .cons h (star_rs t s)
theorem ca_star {tr : TA} {kA : List Rs → Led → Prop} (h : CP C te ε L fun x L1 => ∃ ds, (x = .dat (.list ds) ∨ x = .dat (.tuple ds)) ∧ CA C tr ε L1 fun ys L2 => kA (ds.map Rs.dat ++ ys) L2) (hK : C.K = K := by rfl) : CA C (StX.tStar K te tr) ε L kA := fun σ H Q R X z => by
  subst hK
  refine h σ H _ R X fun v x L1 H1 g1 k1 R1 o1 ⟨ds, e, h1⟩ => ?_
  have key : ∀ (vs : List V), RpAll C.K (hid L1 H1) vs ds → ∀ L2 H2, Grow H1 L1 H2 L2 → Keeps L1 L2 → ∀ ws ys, RsAll C.K L2 H2 ws ys → RsAll C.K L2 H2 (vs ++ ws) (ds.map Rs.dat ++ ys) := by
    intro vs hv
    intro L2 H2 g2 k2 ws ys hw
    exact star_rs (rpAll_mono g2.ext hv) hw
  rcases e with e | e
  · subst e
    cases o1 with
    | @lst p xs _ e2 ha => exact ⟨p, xs, rfl, .inr (SqL.of (hid_sub _ _ e2)), h1 σ H1 _ R1 (X.grow g1) fun ws ys L2 H2 g2 k2 R2 o2 q => z _ _ L2 H2 (g1.trans g2) (k1.trans k2) R2 (key xs ha L2 H2 g2 k2 ws ys o2) q⟩
  · subst e
    cases o1 with
    | @tup p xs _ e2 ha => exact ⟨p, xs, rfl, .inl (ext_t hid_sub e2), h1 σ H1 _ R1 (X.grow g1) fun ws ys L2 H2 g2 k2 R2 o2 q => z _ _ L2 H2 (g1.trans g2) (k1.trans k2) R2 (key xs ha L2 H2 g2 k2 ws ys o2) q⟩
/-! chains, stores at once -/
theorem cp_chain {r r' : R2} (h : CP C ta ε L fun x L1 => CP C tb ε L1 fun y L2 => OD C r x y L2 fun z L3 => ∃ b, z = .dat (.bool b) ∧ if b = true then CP C tc ε L3 fun w L4 => OD C r' y w L4 k else k (.dat (.bool false)) L3) : CP C (tChain r r' ta tb tc) ε L k := fun σ H Q R X z =>
  h σ H _ R X fun v x L1 H1 g1 k1 R1 o1 h1 => h1 σ H1 _ R1 (X.grow g1) fun w y L2 H2 g2 k2 R2 o2 h2 => h2 v w H2 _ R2.led (o1.grow g2 k2) o2 fun u s L3 H3 g3 k3 l3 o3 ⟨b, e, q⟩ => by
    subst e
    cases o3
    have R3 := R2.grow g3 k3 l3
    have g123 := (g1.trans g2).trans g3
    have k123 := (k1.trans k2).trans k3
    refine ⟨b, rfl, ?_⟩
    cases b with
    | true =>
      rw [if_pos rfl] at q ⊢
      exact q σ H3 _ R3 (X.grow g123) fun u2 y2 L4 H4 g4 k4 R4 o4 h4 => h4 w u2 H4 Q R4.led ((o2.grow g3 k3).grow g4 k4) o4 fun u5 s5 L5 H5 g5 k5 l5 o5 q5 => z u5 s5 L5 H5 ((g123.trans g4).trans g5) ((k123.trans k4).trans k5) (R4.grow g5 k5 l5) o5 q5
    | false =>
      rw [if_neg (by decide)] at q ⊢
      exact z _ (.dat (.bool false)) L3 H3 g123 k123 R3 (.bl false) q
theorem hs_par {i j : Nat} (h : CA C tA ε L fun rs L1 => ∃ a b, rs = [a, b] ∧ P.nx ((ε.set i (some a)).set j (some b)) L1) : HS C (tPar i j tA) ε L P := fun σ H D R X E =>
  h σ H _ R X fun vs rs L1 H1 g1 k1 R1 o1 ⟨a, b, e, q⟩ => by
    subst e
    obtain ⟨v, w, rfl, oa, ob⟩ := rsAll_2 o1
    exact ⟨v, w, rfl, E.nx _ L1 _ H1 g1 (rel_set (rel_set R1 oa) ob) q⟩
theorem rsAll_3 {H : Hp} {vs : List V} {r s t : Rs} (o : RsAll K L H vs [r, s, t]) : ∃ u v w, vs = [u, v, w] ∧ RsOk K L H u r ∧ RsOk K L H v s ∧ RsOk K L H w t := by
  cases o with
  | cons a b =>
    obtain ⟨v, w, rfl, c, d⟩ := rsAll_2 b
    exact ⟨_, v, w, rfl, a, c, d⟩
theorem hs_par3 {i j l : Nat} (h : CA C tA ε L fun rs L1 => ∃ a b c, rs = [a, b, c] ∧ P.nx (((ε.set i (some a)).set j (some b)).set l (some c)) L1) : HS C (tPar3 i j l tA) ε L P := fun σ H D R X E =>
  h σ H _ R X fun vs rs L1 H1 g1 k1 R1 o1 ⟨a, b, c, e, q⟩ => by
    subst e
    obtain ⟨u, v, w, rfl, oa, ob, oc⟩ := rsAll_3 o1
    exact ⟨u, v, w, rfl, E.nx _ L1 _ H1 g1 (rel_set (rel_set (rel_set R1 oa) ob) oc) q⟩
theorem hs_ifJ {tt : TT} {t u : TS} (J : Ev → Led → Prop) (h : CT C tt ε L fun b L1 => if b = true then HS C t ε L1 { P with nx := J } else HS C u ε L1 { P with nx := J }) (h2 : ∀ e l, J e l → P.nx e l) : HS C (tIfS tt t u) ε L P :=
  (hs_if (P := { P with nx := J }) h).mono h2 (fun _ _ z => z) (fun _ _ z => z) fun _ _ z => z
theorem hs_whileJ {tc : TT} {tbd : TS} (J : Ev → Led → Prop) (I : Ev → Led → Prop) (μ : Ev → Led → Nat) (h0 : I ε L) (hs : ∀ ε' L', I ε' L' → CT C tc ε' L' fun b L2 => if b = true then HS C tbd ε' L2 { P with nx := fun e l => I e l ∧ μ e l < μ ε' L', ct := fun e l => I e l ∧ μ e l < μ ε' L', bk := J } else J ε' L2) (h2 : ∀ e l, J e l → P.nx e l) : HS C (tWhile tc tbd) ε L P :=
  (hs_while (P := { P with nx := J }) I μ h0 hs).mono h2 (fun _ _ z => z) (fun _ _ z => z) fun _ _ z => z
theorem hs_forJ {wi : TI} {g : TG} {tbd : TS} (J : Ev → Led → Prop) (h : HS C (tFor wi g tbd) ε L { P with nx := J }) (h2 : ∀ e l, J e l → P.nx e l) : HS C (tFor wi g tbd) ε L P :=
  h.mono h2 (fun _ _ z => z) (fun _ _ z => z) fun _ _ z => z
theorem at_last {α : Type} {ds : List α} {d : α} (h : ds[ds.length - 1]? = some d) : atI ds (-1) = some d := by
  have h0 : 0 < ds.length := by
    have := (List.getElem?_eq_some_iff.mp h).1
    omega
  unfold atI ixN
  rw [if_neg (by decide), if_pos (by omega)]
  show ds[((-1 : Int) + (ds.length : Int)).toNat]? = _
  rw [show ((-1 : Int) + (ds.length : Int)).toNat = ds.length - 1 by omega]
  exact h
theorem hs_asgG {g : TG} (h : CP C te ε L fun r L1 => CG C g r ε L1 P.nx) : HS C (tAsg te g) ε L P := fun σ H D R X E =>
  h σ H _ R X fun v r L1 H1 g1 k1 R1 o1 q => q v σ H1 _ R1 o1 fun ε2 L2 σ2 H2 g2 k2 R2 q2 => E.nx ε2 L2 σ2 H2 (g1.trans g2) R2 q2
theorem hs_asgT2 {i j : Nat} (h : CP C te ε L fun r L1 => CG C (gTup K 2 (gCons (gName i) (gCons (gName j) gNil))) r ε L1 P.nx) : HS C (tAsg te (gTup K 2 (gCons (gName i) (gCons (gName j) gNil)))) ε L P := hs_asgG h
theorem hs_pass (h : P.nx ε L) : HS C tNext ε L P := hs_next h
/-! by values -/
theorem od_ip_add {i j : Int} (q : k (.dat (.int (i + j))) L) : OD C (ipI fun a b => a + b) (.dat (.int i)) (.dat (.int j)) L k := od_val (fun v w H l a b => by
  cases a
  cases b
  exact ⟨.int (i + j), .int _, fun Q f => ⟨i, j, rfl, rfl, f⟩⟩) q
theorem od_ip_sub {i j : Int} (q : k (.dat (.int (i - j))) L) : OD C (ipI fun a b => a - b) (.dat (.int i)) (.dat (.int j)) L k := od_val (fun v w H l a b => by
  cases a
  cases b
  exact ⟨.int (i - j), .int _, fun Q f => ⟨i, j, rfl, rfl, f⟩⟩) q
theorem cd_sumZ_lst {ns : List Int} (q : k (.dat (.int ns.sum)) L) : CD C (rSumZ K) [.dat (.list (ns.map PyData.int))] L k := cd_or1 (cd_sum q)
theorem cd_sumZ_tup {ns : List Int} (q : k (.dat (.int ns.sum)) L) (hK : C.K = K := by rfl) : CD C (rSumZ K) [.dat (.tuple (ns.map PyData.int))] L k := by
  subst hK
  refine cd_or2 (cd_val (fun vs H l o => ?_) q)
  obtain ⟨v, rfl, o1⟩ := rsAll_1 o
  cases o1 with
  | @tup p xs _ e ha =>
    have ex := ints_of ha
    subst ex
    exact ⟨.int _, .int _, fun Q f => ⟨p, ns, rfl, ext_t hid_sub e, f⟩⟩
/-- the greatest of some -/
def maxI : List Int → Int
  | [] => 0
  | a :: r => r.foldl max a
theorem foldl_max (r : List Int) : ∀ a : Int, (r.foldl max a = a ∨ r.foldl max a ∈ r) ∧ a ≤ r.foldl max a ∧ ∀ y ∈ r, y ≤ r.foldl max a := by
  induction r with
  | nil => exact fun a => ⟨.inl rfl, Int.le_refl a, fun y h => nomatch h⟩
  | cons b t ih =>
    intro a
    obtain ⟨h1, h2, h3⟩ := ih (max a b)
    rw [List.foldl_cons]
    refine ⟨?_, by omega, fun y hy => ?_⟩
    · rcases h1 with h1 | h1
      · by_cases hab : a ≤ b
        · rw [Int.max_eq_right hab] at h1 ⊢
          exact .inr (by rw [h1]; exact List.mem_cons_self)
        · rw [Int.max_eq_left (by omega)] at h1 ⊢
          exact .inl h1
      · exact .inr (List.mem_cons_of_mem _ h1)
    · rcases List.mem_cons.mp hy with e | e
      · subst e
        omega
      · exact h3 y e
theorem maxI_mem {ns : List Int} (h : 0 < ns.length) : maxI ns ∈ ns := by
  cases ns with
  | nil => simp at h
  | cons a r =>
    rcases (foldl_max r a).1 with e | e
    · show r.foldl max a ∈ a :: r
      rw [e]
      exact List.mem_cons_self
    · exact List.mem_cons_of_mem _ e
theorem maxI_le {ns : List Int} {y : Int} (h : y ∈ ns) : y ≤ maxI ns := by
  cases ns with
  | nil => cases h
  | cons a r =>
    rcases List.mem_cons.mp h with e | e
    · subst e
      exact (foldl_max r y).2.1
    · exact (foldl_max r a).2.2 y e
theorem cd_max_lst {ns : List Int} (h : 0 < ns.length) (q : k (.dat (.int (maxI ns))) L) : CD C (rMaxZ K) [.dat (.list (ns.map PyData.int))] L k := cd_or1 (cd_or1 (cd_val (fun vs H l o => by
  obtain ⟨v, rfl, o1⟩ := rsAll_1 o
  cases o1 with
  | @lst p xs _ e ha =>
    have ex := ints_of ha
    subst ex
    refine ⟨.int (maxI ns), .int _, fun Q f => ⟨p, ns, rfl, SqL.of (hid_sub _ _ e), h, fun m h1 h2 => ?_⟩⟩
    have em : m = maxI ns := Int.le_antisymm (maxI_le h1) (h2 _ (maxI_mem h))
    rw [em]
    exact f) q))
theorem cd_max_tup {ns : List Int} (h : 0 < ns.length) (q : k (.dat (.int (maxI ns))) L) (hK : C.K = K := by rfl) : CD C (rMaxZ K) [.dat (.tuple (ns.map PyData.int))] L k := by
  subst hK
  refine cd_or1 (cd_or2 (cd_val (fun vs H l o => ?_) q))
  obtain ⟨v, rfl, o1⟩ := rsAll_1 o
  cases o1 with
  | @tup p xs _ e ha =>
    have ex := ints_of ha
    subst ex
    refine ⟨.int (maxI ns), .int _, fun Q f => ⟨p, ns, rfl, ext_t hid_sub e, h, fun m h1 h2 => ?_⟩⟩
    have em : m = maxI ns := Int.le_antisymm (maxI_le h1) (h2 _ (maxI_mem h))
    rw [em]
    exact f
theorem cd_max2 {i j : Int} (q : k (.dat (.int (if j > i then j else i))) L) : CD C (rMaxZ K) [.dat (.int i), .dat (.int j)] L k := cd_or2 (cd_val (fun vs H l o => by
  have e := rsAll_int2 o
  subst e
  exact ⟨.int _, .int _, fun Q f => ⟨i, j, rfl, f⟩⟩) q)
/-- tuple(xs), list(xs) -/
def rTupZ (K : PySem.W.Frag) : List V → Hp → VK → Prop := fun xs H Q => ∃ p ys, xs = [.ref p] ∧ ((SqL K H p ys ∧ ∀ l, H l = none → Q (.ref l) (upd H l (.tup ys))) ∨ (SqT K H p ys ∧ Q (.ref p) H))
theorem call_tupleZ {X : Cx} : CallR X (.type "tuple") (rTupZ X.K) := call_tuple_of
theorem cd_tup_lst {ds : List PyData} (q : k (.dat (.tuple ds)) L) : CD C (rTupZ K) [.dat (.list ds)] L k := fun vs H Q l o f => by
  obtain ⟨v, rfl, o1⟩ := rsAll_1 o
  cases o1 with
  | @lst p xs _ e ha =>
    refine ⟨p, xs, rfl, .inl ⟨SqL.of (hid_sub _ _ e), fun a ha2 => ?_⟩⟩
    have g : Grow H L (upd H a (.tup xs)) L := grow_new ha2
    exact f _ (.dat (.tuple ds)) L _ g (Keeps.refl L) (l.new ha2) (.tup (SqT.of (by rw [hid_out (l.fresh ha2)]; exact upd_same)) (rpAll_mono g.ext ha)) q
theorem cd_tup_own {a : Addr} {ds : List PyData} (m : (a, .lst ds) ∈ L) (q : k (.dat (.tuple ds)) L) : CD C (rTupZ K) [.own a] L k := fun vs H Q l o f => by
  obtain ⟨v, rfl, o1⟩ := rsAll_1 o
  obtain ⟨rfl, ha⟩ := o1
  obtain ⟨xs, ex, hx⟩ := l.isLst m
  refine ⟨a, xs, rfl, .inl ⟨SqL.of ex, fun p hp => ?_⟩⟩
  have g : Grow H L (upd H p (.tup xs)) L := grow_new hp
  exact f _ (.dat (.tuple ds)) L _ g (Keeps.refl L) (l.new hp) (.tup (SqT.of (by rw [hid_out (l.fresh hp)]; exact upd_same)) (rpAll_mono g.ext hx)) q
def rLstZ (K : PySem.W.Frag) : List V → Hp → VK → Prop := fun xs H Q => ∃ p ys, xs = [.ref p] ∧ (SqL K H p ys ∨ SqT K H p ys) ∧ ∀ l, H l = none → Q (.ref l) (upd H l (.lst ys))
theorem call_listZ {X : Cx} : CallR X (.type "list") (rLstZ X.K) := call_list_of
theorem cd_list_tup {ds : List PyData} (q : k (.dat (.list ds)) L) (hK : C.K = K := by rfl) : CD C (rLstZ K) [.dat (.tuple ds)] L k := by
  subst hK
  refine cd_lst (fun vs H l o => ?_) q
  obtain ⟨v, rfl, o1⟩ := rsAll_1 o
  cases o1 with
  | @tup p xs _ e ha => exact ⟨xs, ha, fun Q f => ⟨p, xs, rfl, .inr (ext_t hid_sub e), f⟩⟩
theorem cd_list_lst {ds : List PyData} (q : k (.dat (.list ds)) L) : CD C (rLstZ K) [.dat (.list ds)] L k := cd_lst (fun vs H l o => by
  obtain ⟨v, rfl, o1⟩ := rsAll_1 o
  cases o1 with
  | @lst p xs _ e ha => exact ⟨xs, ha, fun Q f => ⟨p, xs, rfl, .inl (SqL.of (hid_sub _ _ e)), f⟩⟩) q
/-- sorted(xs) of ints -/
theorem cd_sortedI {ns ms : List Int} (hp : ms.Perm ns) (hs : ms.Pairwise (· ≤ ·)) (q : k (.dat (.list (ms.map PyData.int))) L) : CD C (rSortedI K) [.dat (.list (ns.map PyData.int))] L k := cd_lst (fun vs H l o => by
  obtain ⟨v, rfl, o1⟩ := rsAll_1 o
  cases o1 with
  | @lst p xs _ e ha =>
    have ex := ints_of ha
    subst ex
    refine ⟨ms.map V.int, rpAll_ints ms, fun Q f => ⟨p, ns, rfl, SqL.of (hid_sub _ _ e), fun ns' a h1 h2 h3 => ?_⟩⟩
    have en : ns' = ms := List.Perm.eq_of_pairwise (fun a b _ _ h1 h2 => Int.le_antisymm h1 h2) h2 hs (h1.trans hp.symm)
    rw [en]
    exact f a h3) q
/-! in, over ints -/
theorem inV_ints (i : Int) : ∀ ns : List Int, inV (.int i) (ns.map V.int) = decide (i ∈ ns)
  | [] => by
    simp [inV]
  | a :: r => by
    have h := inV_ints i r
    unfold inV at h ⊢
    rw [List.map_cons, List.any_cons, h]
    have e : eqV (.int a) (.int i) = decide (a = i) := by
      show (a == i) = _
      by_cases z : a = i
      · rw [decide_eq_true z]
        exact beq_iff_eq.mpr z
      · rw [decide_eq_false z]
        exact beq_eq_false_iff_ne.mpr z
    rw [e]
    by_cases h1 : a = i
    · subst h1
      simp
    · rw [decide_eq_false h1, Bool.false_or]
      have : (i ∈ a :: r) ↔ i ∈ r := by
        rw [List.mem_cons]
        exact ⟨fun h => h.resolve_left fun z => h1 z.symm, .inr⟩
      simp [this]
theorem flat_ints (ns : List Int) : (ns.map V.int).all flatV = true := by
  induction ns with
  | nil => rfl
  | cons a r ih =>
    rw [List.map_cons, List.all_cons, ih]
    rfl
theorem od_in_tup {i : Int} {ns : List Int} (q : k (.dat (.bool (decide (i ∈ ns)))) L) (hK : C.K = K := by rfl) : OD C (rInZ K) (.dat (.int i)) (.dat (.tuple (ns.map PyData.int))) L k := by
  subst hK
  refine od_or2 (od_val (fun v w H l a b => ?_) q)
  cases a
  cases b with
  | @tup p xs _ e ha =>
    have ex := ints_of ha
    subst ex
    exact ⟨.bl _, .bl _, fun Q f => ⟨p, _, rfl, .inr (ext_t hid_sub e), rfl, flat_ints ns, by rw [if_neg (by decide), inV_ints]; exact f⟩⟩
theorem od_notIn_tup {i : Int} {ns : List Int} (q : k (.dat (.bool (!decide (i ∈ ns)))) L) (hK : C.K = K := by rfl) : OD C (rNotInZ K) (.dat (.int i)) (.dat (.tuple (ns.map PyData.int))) L k := by
  subst hK
  refine od_or2 (od_val (fun v w H l a b => ?_) q)
  cases a
  cases b with
  | @tup p xs _ e ha =>
    have ex := ints_of ha
    subst ex
    exact ⟨.bl _, .bl _, fun Q f => ⟨p, _, rfl, .inr (ext_t hid_sub e), rfl, flat_ints ns, by rw [if_pos rfl, inV_ints]; exact f⟩⟩
/-- xs + ys, written on later -/
theorem od_add_own {ds es : List PyData} (h : ds.length + es.length ≤ sizeLine) (q : ∀ p, p ∉ L.ks → k (.own p) (plus L p (ds ++ es))) : OD C (rAddZ K) (.dat (.list ds)) (.dat (.list es)) L k := fun v w H Q l a b f => .inr (.inr (.inl (by
  have a' : Rp C.K (hid L H) v (.list ds) := a
  have b' : Rp C.K (hid L H) w (.list es) := b
  cases a' with
  | @lst p xs _ e1 h1 =>
    cases b' with
    | @lst p2 ys _ e2 h2 =>
      refine ⟨p, p2, xs, ys, rfl, rfl, hid_sub _ _ e1, hid_sub _ _ e2, by rw [rpAll_len h1, rpAll_len h2]; exact h, fun a ha => ?_⟩
      exact f _ (.own a) _ _ (grow_own ha) keeps_own (l.own ha (rpAll_app h1 h2)) ⟨rfl, Led.key plus_mem⟩ (q a (l.fresh ha)))))
/-- (e,) * n -/
theorem od_mul_tup {ds : List PyData} {n : Int} (h : ds ≠ [] ∧ 2 ≤ n ∧ n ≤ 1000 ∧ ds.length ≤ 1000) (q : k (.dat (.tuple (List.replicate n.toNat ds).flatten)) L) (hK : C.K = K := by rfl) : OD C (rMulY K) (.dat (.tuple ds)) (.dat (.int n)) L k := fun v w H Q l a b f => .inl (.inr (.inr (by
  subst hK
  have a' : Rp C.K (hid L H) v (.tuple ds) := a
  cases b
  cases a' with
  | @tup p xs _ e ha =>
    have hl := rpAll_len ha
    refine ⟨p, n, xs, rfl, rfl, ext_t hid_sub e, fun z => h.1 (List.eq_nil_of_length_eq_zero (by rw [← hl, z]; rfl)), h.2.1, h.2.2.1, by rw [hl]; exact h.2.2.2, fun a2 ha2 => ?_⟩
    have g : Grow H L (upd H a2 (.tup (List.replicate n.toNat xs).flatten)) L := grow_new ha2
    exact f _ (.dat (.tuple (List.replicate n.toNat ds).flatten)) L _ g (Keeps.refl L) (l.new ha2) (.tup (SqT.of (by rw [hid_out (l.fresh ha2)]; exact upd_same)) (rpAll_mono g.ext (rpAll_rep ha _))) q)))
end
theorem slK {X : Cx} {K : PySem.W.Frag} {r : PySem.W.Frag → V → Option Int → Option Int → Hp → VK → Prop} (h : SlR X (r X.K)) (e : X.K = K) : SlR X (r K) := e ▸ h
theorem pa_starK {X : Cx} {K : PySem.W.Frag} {e : Expr} {es : List Expr} {p : Pos} {te : TE} {t : TA} (ek : X.K = K) (he : PE X e te) (hr : PA X es t) (hs : starEach (.Starred e p :: es) X.env = (true, eval e X.env) :: starEach es X.env := by rfl) : PA X (.Starred e p :: es) (StX.tStar K te t) := by
  subst ek
  exact StX.pa_star he hr hs
end Z

set_option Elab.async false
set_option linter.all false
set_option maxRecDepth 100000
set_option maxHeartbeats 2000000
/-! a def called out of a list of defs -/
namespace Z
open PySem PySem.Spec PyProof.Rows L2
def tCallV (Kn : Addr → Sp → Prop) (E : L2.St → XK) (te : TE) (t : TA) : TE := fun σ H Q => te σ H fun v H1 => ∃ f sp, v = .ref f ∧ Kn f sp ∧ t σ H1 fun vs H2 => sp vs H2 Q (E σ)
theorem pe_callV {X : Cx} {CX : CXT} {k : Nat} {Kn : Addr → Sp → Prop} {E : L2.St → XK} {fe e : Expr} {es : List Expr} {te : TE} {t : TA} {pos : Pos}
    (hK : ∀ f sp, Kn f sp → ∃ fd ps, FnOk X.prog X.w X.K X.mg X.base CX k f fd ps sp ∧ PySem.W.keepIn X.K (.ref f) = true ∧ Binds X.K fd ps []) (hr : Room k X.A) (hx : ∀ σ, PassesAt CX X σ (E σ)) (hf : PE X fe te) (ha : PA X (e :: es) t)
    (hc : eval (.Call fe (e :: es) [] pos) X.env = (do callWith pos (← eval fe X.env) [] (backTo pos (starEach (e :: es) X.env)) (backToKw pos (keywordEach [] X.env))) := by rfl)
    (he : starEach (e :: es) X.env = (false, eval e X.env) :: starEach es X.env := by rfl) (hpl : (backTo pos (starEach es X.env)).any (·.1) = false := by rfl) : PE X (.Call fe (e :: es) [] pos) (tCallV Kn E te t) := by
  refine ⟨fun pins s σ H Q I h => ?_⟩
  refine Call_ (thn (hf.run pins s σ H _ I h) fun u s1 ⟨v, H1, I1, r1, f, sp, ev, hk, q1⟩ => ?_) hc
  subst ev
  have eu : u = .ref f := r1
  subst eu
  obtain ⟨fd, ps, F, kp, hb⟩ := hK f sp hk
  exact PySem.W.callWith_K (h₀ := X.base) I1.ok.mod.kin kp (thn (ha.run pos pins s1 σ H1 _ I1 q1) fun us s2 ⟨vs, H2, I2, r2, q⟩ => ⟨I2.kIn, run_fnS F hr hb (hx σ) I2 r2 q⟩) he hpl
section
variable {C : Cz} {ε : Ev} {L : Led} {k : Rs → Led → Prop} {K : PySem.W.Frag} {te tb : TE} {ta : TA}
/-- the defs by their promises over data -/
def knD (K : PySem.W.Frag) (Kd : Addr → DSp → Prop) : Addr → Sp → Prop := fun f sp => ∃ d, Kd f d ∧ sp = lift K d
theorem cp_callV {Kd : Addr → DSp → Prop} (h : CP C te ε L fun x L1 => ∃ f d, x = .raw (.ref f) ∧ Kd f d ∧ CA C ta ε L1 fun rs L2 => d rs L2 k fun c L3 => C.kx c ε L3) : CP C (tCallV (knD C.K Kd) (WE C.W) te ta) ε L k := fun σ H Q R X z =>
  h σ H _ R X fun v x L1 H1 g1 k1 R1 o1 ⟨f, d, ex, hk, h1⟩ => by
    subst ex
    have ev : v = .ref f := o1
    exact ⟨f, lift C.K d, ev, ⟨d, hk, rfl⟩, h1 σ H1 _ R1 (X.grow g1) fun vs rs L2 H2 g2 k2 R2 o2 q =>
      ⟨rs, L2, k, _, o2, R2.led, q, fun v r L3 H3 g3 k3 l3 o3 q3 => z v r L3 H3 ((g1.trans g2).trans g3) ((k1.trans k2).trans k3) (R2.grow g3 k3 l3) o3 q3, fun c L3 H3 g3 k3 l3 f3 => X c ε σ L3 H3 ((g1.trans g2).trans g3) (R2.grow g3 k3 l3) f3⟩⟩
theorem rsAll_raws {H : Hp} : ∀ {vs ws : List V}, RsAll K L H vs (ws.map Rs.raw) → vs = ws
  | _, [], .nil => rfl
  | _, w :: r, .cons h t => by
    have e : _ = w := h
    rw [e, rsAll_raws t]
/-- [f, g, ..][i] -/
theorem cp_ixRaw (h : CA C ta ε L fun xs L1 => ∃ ws : List V, xs = ws.map Rs.raw ∧ ws.length ≤ sizeLine ∧ CP C tb ε L1 fun y L2 => ∃ (i : Int) (v : V), y = .dat (.int i) ∧ atI ws i = some v ∧ k (.raw v) L2) (hK : C.K = K := by rfl) : CP C (tOp (rIx K) (tLst ta) tb) ε L k := fun σ H Q R X z => by
  subst hK
  refine h σ H _ R X fun vs xs L1 H1 g1 k1 R1 o1 ⟨ws, e, hl, h1⟩ => ?_
  subst e
  have e2 := rsAll_raws o1
  subst e2
  refine ⟨hl, fun p hp => ?_⟩
  have hn : p ∉ L1.ks := R1.led.fresh hp
  have g2 : Grow H1 L1 (upd H1 p (.lst vs)) L1 := grow_new hp
  refine h1 σ _ _ (R1.grow g2 (Keeps.refl _) (R1.led.new hp)) ((X.grow g1).grow g2) fun u y L2 H2 g3 k3 R3 o3 ⟨i, v, ey, ei, q⟩ => ?_
  subst ey
  cases o3
  have hp2 : H2 p = some (.lst vs) := g3.old p _ upd_same hn
  exact .inl ⟨p, vs, i, v, rfl, rfl, SqL.of hp2, ei, z v (.raw v) L2 H2 ((g1.trans g2).trans g3) (k1.trans k3) R3 rfl q⟩
end
end Z

set_option linter.all false
/-! Y0: the plain outcomes of Python's blocks -/
namespace Y
/-- what comes of a block: σ what is known behind it, l the loop's state, ρ the def's answer -/
inductive Ctl (σ l ρ : Type) where
  | bad
  | nx (s : σ)
  | ct (s : l)
  | bk (s : l)
  | rt (r : ρ)
  | ex (c : Nat)
inductive Res (ρ : Type) where
  | bad
  | ok (r : ρ)
  | ex (c : Nat)
variable {σ τ l ρ α β : Type}
def Ctl.bind : Ctl σ l ρ → (σ → Ctl τ l ρ) → Ctl τ l ρ
  | .bad, _ => .bad
  | .nx s, f => f s
  | .ct s, _ => .ct s
  | .bk s, _ => .bk s
  | .rt r, _ => .rt r
  | .ex c, _ => .ex c
def run : Ctl σ l ρ → Res ρ
  | .rt r => .ok r
  | .ex c => .ex c
  | _ => .bad
/-- a def whose end is its answer None -/
def runN : Ctl σ l Unit → Res Unit
  | .rt _ => .ok ()
  | .nx _ => .ok ()
  | .ex c => .ex c
  | _ => .bad
open Classical in
noncomputable def grd (p : Prop) (o : Ctl σ l ρ) : Ctl σ l ρ := if p then o else .bad
def lt (v : α) (o : α → Ctl σ l ρ) : Ctl σ l ρ := o v
def forC : List α → σ → (α → σ → Ctl σ σ ρ) → Ctl σ l ρ
  | [], s, _ => .nx s
  | a :: r, s, f => match f a s with
    | .bad => .bad
    | .nx s => forC r s f
    | .ct s => forC r s f
    | .bk s => .nx s
    | .rt x => .rt x
    | .ex c => .ex c
def whileC (f : σ → Ctl σ σ ρ) : Nat → σ → Ctl σ l ρ
  | 0, _ => .bad
  | n + 1, s => match f s with
    | .bad => .bad
    | .nx s => whileC f n s
    | .ct s => whileC f n s
    | .bk s => .nx s
    | .rt x => .rt x
    | .ex c => .ex c
def callC (r : Res α) (f : α → Ctl σ l ρ) : Ctl σ l ρ := match r with
  | .bad => .bad
  | .ok a => f a
  | .ex c => .ex c
/-- the answer, an error's flags in its place -/
def tryC (r : Res α) (h : Nat → α) : Res α := match r with
  | .bad => .bad
  | .ok a => .ok a
  | .ex c => .ok (h c)
def Res.isOk : Res ρ → Bool
  | .ok _ => true
  | _ => false
def Res.get [Inhabited ρ] : Res ρ → ρ
  | .ok r => r
  | _ => default
theorem Res.eq_ok [Inhabited ρ] {o : Res ρ} (h : o.isOk = true) : o = .ok o.get := by
  cases o with
  | ok r => rfl
  | bad => cases h
  | ex c => cases h
section simps
@[simp] theorem bind_bad (f : σ → Ctl τ l ρ) : Ctl.bind (.bad : Ctl σ l ρ) f = .bad := rfl
@[simp] theorem bind_nx (s : σ) (f : σ → Ctl τ l ρ) : Ctl.bind (.nx s : Ctl σ l ρ) f = f s := rfl
@[simp] theorem bind_rt (r : ρ) (f : σ → Ctl τ l ρ) : Ctl.bind (.rt r : Ctl σ l ρ) f = .rt r := rfl
@[simp] theorem bind_ex (c : Nat) (f : σ → Ctl τ l ρ) : Ctl.bind (.ex c : Ctl σ l ρ) f = .ex c := rfl
@[simp] theorem bind_ct (s : l) (f : σ → Ctl τ l ρ) : Ctl.bind (.ct s : Ctl σ l ρ) f = .ct s := rfl
@[simp] theorem bind_bk (s : l) (f : σ → Ctl τ l ρ) : Ctl.bind (.bk s : Ctl σ l ρ) f = .bk s := rfl
@[simp] theorem run_rt (r : ρ) : run (.rt r : Ctl σ l ρ) = .ok r := rfl
@[simp] theorem run_ex (c : Nat) : run (.ex c : Ctl σ l ρ) = .ex c := rfl
@[simp] theorem run_bad : run (.bad : Ctl σ l ρ) = .bad := rfl
@[simp] theorem runN_rt (r : Unit) : runN (.rt r : Ctl σ l Unit) = .ok () := rfl
@[simp] theorem runN_nx (s : σ) : runN (.nx s : Ctl σ l Unit) = .ok () := rfl
@[simp] theorem runN_ex (c : Nat) : runN (.ex c : Ctl σ l Unit) = .ex c := rfl
@[simp] theorem callC_ok (a : α) (f : α → Ctl σ l ρ) : callC (.ok a) f = f a := rfl
@[simp] theorem callC_ex (c : Nat) (f : α → Ctl σ l ρ) : callC (.ex c) f = .ex c := rfl
@[simp] theorem lt_eq (v : α) (o : α → Ctl σ l ρ) : lt v o = o v := rfl
@[simp] theorem isOk_ok (r : ρ) : (Res.ok r).isOk = true := rfl
@[simp] theorem get_ok [Inhabited ρ] (r : ρ) : (Res.ok r).get = r := rfl
@[simp] theorem forC_nil (s : σ) (f : α → σ → Ctl σ σ ρ) : (forC [] s f : Ctl σ l ρ) = .nx s := rfl
theorem grd_pos {p : Prop} {o : Ctl σ l ρ} (h : p) : grd p o = o := if_pos h
@[simp] theorem grd_true {o : Ctl σ l ρ} : grd True o = o := if_pos trivial
end simps
/-! ### reasoning over loops -/
/-- a loop that goes through all items -/
theorem forC_nx {xs : List α} {s0 : σ} {f : α → σ → Ctl σ σ ρ} (g : α → σ → σ) (h : ∀ x ∈ xs, ∀ s, f x s = .nx (g x s)) : (forC xs s0 f : Ctl σ l ρ) = .nx (xs.foldl (fun s x => g x s) s0) := by
  induction xs generalizing s0 with
  | nil => rfl
  | cons a r ih =>
    unfold forC
    rw [h a List.mem_cons_self s0]
    exact ih fun x hx s => h x (List.mem_cons_of_mem _ hx) s
/-- by an invariant -/
theorem forC_inv {xs : List α} {s0 : σ} {f : α → σ → Ctl σ σ ρ} (I : Nat → σ → Prop) (h0 : I 0 s0) (h : ∀ i x s, xs[i]? = some x → I i s → ∃ s', (f x s = .nx s' ∨ f x s = .ct s') ∧ I (i + 1) s') :
    ∃ s', (forC xs s0 f : Ctl σ l ρ) = .nx s' ∧ I xs.length s' := by
  induction xs generalizing s0 I with
  | nil => exact ⟨s0, rfl, h0⟩
  | cons a r ih =>
    obtain ⟨s1, e, h1⟩ := h 0 a s0 rfl h0
    obtain ⟨s2, e2, h2⟩ := ih (s0 := s1) (fun i s => I (i + 1) s) h1 fun i x s hx hi => h (i + 1) x s (by simpa using hx) hi
    refine ⟨s2, ?_, h2⟩
    unfold forC
    rcases e with e | e <;> rw [e] <;> exact e2
/-- a while loop by an invariant and a measure -/
theorem whileC_inv {f : σ → Ctl σ σ ρ} (I : σ → Prop) (D : σ → Prop) (μ : σ → Nat) (h : ∀ s, I s → (∃ s', f s = .bk s' ∧ D s') ∨ ∃ s', (f s = .nx s' ∨ f s = .ct s') ∧ I s' ∧ μ s' < μ s) :
    ∀ (n : Nat) (s : σ), I s → μ s < n → ∃ s', (whileC f n s : Ctl σ l ρ) = .nx s' ∧ D s'
  | 0, s, _, hn => absurd hn (Nat.not_lt_zero _)
  | n + 1, s, hi, hn => by
    rcases h s hi with ⟨s', e, d⟩ | ⟨s', e, i', m⟩
    · exact ⟨s', by unfold whileC; rw [e], d⟩
    · obtain ⟨s2, e2, d2⟩ := whileC_inv I D μ h n s' i' (by omega)
      refine ⟨s2, ?_, d2⟩
      unfold whileC
      rcases e with e | e <;> rw [e] <;> exact e2
end Y

set_option Elab.async false
set_option linter.all false
set_option maxRecDepth 100000
set_option maxHeartbeats 2000000
namespace Y
open PySem PySem.Spec PyProof.Rows L2 Z
/-! ### values as data -/
abbrev eI : Int → PyData := PyData.int
abbrev eB : Bool → PyData := PyData.bool
abbrev eS : Str → PyData := PyData.str
abbrev eN : Unit → PyData := fun _ => PyData.none
abbrev eD : PyData → PyData := fun d => d
abbrev eL {α : Type} (e : α → PyData) (xs : List α) : PyData := .list (xs.map e)
abbrev eT {α : Type} (e : α → PyData) (xs : List α) : PyData := .tuple (xs.map e)
abbrev eP2 {α β : Type} (a : α → PyData) (b : β → PyData) (p : α × β) : PyData := .tuple [a p.1, b p.2]
abbrev eP3 {α β γ : Type} (a : α → PyData) (b : β → PyData) (c : γ → PyData) (p : α × β × γ) : PyData := .tuple [a p.1, b p.2.1, c p.2.2]
def eO {α : Type} (e : α → PyData) : Option α → PyData
  | none => .none
  | some x => e x
/-! ### judgements -/
section
variable {K : PySem.W.Frag}
/-- an expression: its value, the ledger behind -/
def EV (C : Cz) (te : TE) (ε : Ev) (L : Led) (r : Rs) (L' : Led) : Prop := ∀ k : Rs → Led → Prop, k r L' → CP C te ε L k
def ET (C : Cz) (tt : TT) (ε : Ev) (L : Led) (b : Bool) (L' : Led) : Prop := ∀ k : Bool → Led → Prop, k b L' → CT C tt ε L k
def EA (C : Cz) (ta : TA) (ε : Ev) (L : Led) (rs : List Rs) (L' : Led) : Prop := ∀ k : List Rs → Led → Prop, k rs L' → CA C ta ε L k
def EI (C : Cz) (wi : TI) (ε : Ev) (L : Led) (ds : List PyData) (L' : Led) : Prop := ∀ k : List PyData → Led → Prop, k ds L' → CI C wi ε L k
def EG (C : Cz) (g : TG) (r : Rs) (ε : Ev) (L : Led) (ε' : Ev) : Prop := ∀ k : Ev → Led → Prop, k ε' L → CG C g r ε L k
def EO (C : Cz) (to : TO) (ε : Ev) (L : Led) (o : Option Int) (L' : Led) : Prop := ∀ k : Option Int → Led → Prop, k o L' → CO C to ε L k
/-- a new list that is written on -/
def EW (C : Cz) (te : TE) (ε : Ev) (L : Led) (ds : List PyData) (L' : Led) : Prop := ∀ k : Rs → Led → Prop, (∀ p, p ∉ L'.ks → k (.own p) (plus L' p ds)) → CP C te ε L k
variable {C : Cz} {ε ε' : Ev} {L L1 L2 L3 : Led} {r x y z : Rs} {te ta tb tc : TE} {tt tu : TT} {tA : TA}
theorem ev_var {i : Nat} (h : ε[i]? = some (some r)) : EV C (tVar i) ε L r L := fun k q => cp_var h q
theorem ev_int {i : Int} : EV C (tC (.int i)) ε L (.dat (.int i)) L := fun k q => cp_int q
theorem ev_bl {b : Bool} : EV C (tC (.bl b)) ε L (.dat (.bool b)) L := fun k q => cp_bl q
theorem ev_str {s : Str} : EV C (tC (.str s)) ε L (.dat (.str s)) L := fun k q => cp_str q
theorem ev_non : EV C (tC .non) ε L (.dat .none) L := fun k q => cp_non q
theorem ev_ref {a : Addr} : EV C (tC (.ref a)) ε L (.raw (.ref a)) L := fun k q => cp_ref q
theorem ev_ty {n : String} : EV C (tC (.ty n)) ε L (.raw (.ty n)) L := fun k q => cp_ty q
theorem ev_as {x y : Rs} (h : EV C te ε L x L1) (e : x = y) : EV C te ε L y L1 := e ▸ h
/-- known to be of another form -/
theorem ev_cast {d e : PyData} (h : EV C te ε L (.dat d) L1) (q : d = e) : EV C te ε L (.dat e) L1 := q ▸ h
theorem ev_op {r : R2} (h1 : EV C ta ε L x L1) (h2 : EV C tb ε L1 y L2) (h3 : ∀ k, k z L2 → OD C r x y L2 k) : EV C (tOp r ta tb) ε L z L2 := fun k q =>
  cp_op (h1 _ (h2 _ (h3 _ q)))
theorem ev_un {r : V → Hp → VK → Prop} (h1 : EV C ta ε L x L1) (h3 : ∀ k, k z L1 → CD C (fun vs H Q => ∃ v, vs = [v] ∧ r v H Q) [x] L1 k) : EV C (tUn r ta) ε L z L1 := fun k q => cp_un (h1 _ (h3 _ q))
theorem ea_nil : EA C tNil ε L [] L := fun k q => ca_nil q
theorem ea_cons {xs : List Rs} {tr : TA} (h1 : EV C te ε L x L1) (h2 : EA C tr ε L1 xs L2) : EA C (tCons te tr) ε L (x :: xs) L2 := fun k q => ca_cons (h1 _ (h2 _ q))
theorem ea_star {tr : TA} {ds : List PyData} {xs : List Rs} (h1 : EV C te ε L x L1) (hx : x = .dat (.list ds) ∨ x = .dat (.tuple ds)) (h2 : EA C tr ε L1 xs L2) (hK : C.K = K := by rfl) : EA C (StX.tStar K te tr) ε L (ds.map Rs.dat ++ xs) L2 := fun k q =>
  ca_star (h1 _ ⟨ds, hx, h2 _ q⟩) hK
theorem ev_cb {r : List V → Hp → VK → Prop} {xs : List Rs} (h1 : EA C tA ε L xs L1) (h2 : ∀ k, k z L1 → CD C r xs L1 k) : EV C (tCB r tA) ε L z L1 := fun k q => cp_cb (h1 _ (h2 _ q))
/-- a list, a tuple as written -/
theorem ev_lst {ds : List PyData} {xs : List Rs} (h1 : EA C tA ε L xs L1) (e : xs = ds.map Rs.dat) (hl : ds.length ≤ sizeLine) : EV C (tLst tA) ε L (.dat (.list ds)) L1 := fun k q => cp_lst (h1 _ ⟨ds, e, hl, q⟩)
theorem ev_tup {ds : List PyData} {xs : List Rs} (h1 : EA C tA ε L xs L1) (e : xs = ds.map Rs.dat) (hl : ds.length ≤ sizeLine) : EV C (tTup tA) ε L (.dat (.tuple ds)) L1 := fun k q => cp_tup (h1 _ ⟨ds, e, hl, q⟩)
theorem ew_lst {ds : List PyData} {xs : List Rs} (h1 : EA C tA ε L xs L1) (e : xs = ds.map Rs.dat) (hl : ds.length ≤ sizeLine) : EW C (tLst tA) ε L ds L1 := fun k q => cp_lstO (h1 _ ⟨ds, e, hl, q⟩)
/-! tests -/
theorem et_test {b : Bool} (h : EV C te ε L (.dat (.bool b)) L1) : ET C (tTest te) ε L b L1 := fun k q => ct_test (h _ ⟨b, rfl, q⟩)
theorem et_b {b : Bool} (h : EV C te ε L (.dat (.bool b)) L1) : ET C (tB te) ε L b L1 := fun k q => ct_b (h _ ⟨b, rfl, q⟩)
theorem et_yes : ET C tYes ε L true L := fun k q => ct_yes q
theorem et_not {b : Bool} (h : ET C tt ε L b L1) : ET C (tNot tt) ε L (!b) L1 := fun k q => ct_not (h _ q)
theorem et_and {a b : Bool} (h : ET C tt ε L a L) (h2 : a = true → ET C tu ε L b L) : ET C (tAnd tt tu) ε L (a && b) L := fun k q => ct_and (h _ (by
  cases a with
  | true => exact h2 rfl _ q
  | false => exact q))
theorem et_or {a b : Bool} (h : ET C tt ε L a L) (h2 : a = false → ET C tu ε L b L) : ET C (tOr tt tu) ε L (a || b) L := fun k q => ct_or (h _ (by
  cases a with
  | true => exact q
  | false => exact h2 rfl _ q))
theorem ev_and {a b : Bool} (h : EV C ta ε L (.dat (.bool a)) L) (h2 : a = true → EV C tb ε L (.dat (.bool b)) L) : EV C (tAndV ta tb) ε L (.dat (.bool (a && b))) L := fun k q => cp_andV (h _ ⟨a, rfl, by
  cases a with
  | true => exact h2 rfl _ q
  | false => exact q⟩)
theorem ev_or {a b : Bool} (h : EV C ta ε L (.dat (.bool a)) L) (h2 : a = false → EV C tb ε L (.dat (.bool b)) L) : EV C (tOrV ta tb) ε L (.dat (.bool (a || b))) L := fun k q => cp_orV (h _ ⟨a, rfl, by
  cases a with
  | true => exact q
  | false => exact h2 rfl _ q⟩)
theorem ev_not {b : Bool} (h : EV C ta ε L (.dat (.bool b)) L1) : EV C (tNotV ta) ε L (.dat (.bool (!b))) L1 := fun k q => cp_notV (h _ ⟨b, rfl, q⟩)
theorem ev_if {α : Type} {e : α → PyData} {b : Bool} {v w : α} (h : ET C tt ε L b L) (h1 : b = true → EV C ta ε L (.dat (e v)) L) (h2 : b = false → EV C tb ε L (.dat (e w)) L) : EV C (tIf tt ta tb) ε L (.dat (e (bif b then v else w))) L := fun k q => cp_if (h _ (by
  cases b with
  | true => exact h1 rfl _ q
  | false => exact h2 rfl _ q))
/-- a chain of two comparisons -/
theorem ev_chain {r r' : R2} {a b : Bool} (h1 : EV C ta ε L x L) (h2 : EV C tb ε L y L) (h3 : ∀ k, k (.dat (.bool a)) L → OD C r x y L k) (h4 : a = true → EV C tc ε L z L) (h5 : ∀ k, k (.dat (.bool b)) L → OD C r' y z L k) :
    EV C (tChain r r' ta tb tc) ε L (.dat (.bool (a && b))) L := fun k q => cp_chain (h1 _ (h2 _ (h3 _ ⟨a, rfl, by
  cases a with
  | true => exact h4 rfl _ (h5 _ q)
  | false => exact q⟩)))
/-! calls -/
def AccR {ρ : Type} (ca : Nat → Addr) (o : Res ρ) (k : ρ → Prop) (x : Addr → Prop) : Prop := match o with
  | .bad => False
  | .ok r => k r
  | .ex c => x (ca c)
theorem accR_ok {ρ : Type} [Inhabited ρ] {ca : Nat → Addr} {o : Res ρ} {k : ρ → Prop} {x : Addr → Prop} (h : o.isOk = true) (q : k o.get) : AccR ca o k x := by
  rw [Res.eq_ok h]
  exact q
theorem ev_call {d : DSp} {rs : List Rs} (h1 : EA C tA ε L rs L1) (h2 : ∀ k : Rs → Led → Prop, k z L2 → d rs L1 k fun _ _ => False) : EV C (tCall (lift C.K d) [] E0 tA) ε L z L2 := fun k q => cp_call (h1 _ (h2 _ q))
theorem ev_callS {d : DSp} {rs : List Rs} (h1 : EA C tA ε L rs L1) (h2 : ∀ k : Rs → Led → Prop, k z L2 → d rs L1 k fun c L2 => C.kx c ε L2) : EV C (tCallS (lift C.K d) (WE C.W) tA) ε L z L2 := fun k q => cp_callS (h1 _ (h2 _ q))
/-! targets, sources -/
theorem eg_name {i : Nat} : EG C (gName i) r ε L (ε.set i (some r)) := fun k q => cg_name q
theorem eg_tup2 {i j : Nat} {a b : PyData} (hK : C.K = K := by rfl) : EG C (gTup K 2 (gCons (gName i) (gCons (gName j) gNil))) (.dat (.tuple [a, b])) ε L ((ε.set i (some (.dat a))).set j (some (.dat b))) := fun k q => cg_tup2 q hK
theorem eg_tup3 {i j m : Nat} {a b c : PyData} (hK : C.K = K := by rfl) : EG C (gTup K 3 (gCons (gName i) (gCons (gName j) (gCons (gName m) gNil)))) (.dat (.tuple [a, b, c])) ε L (((ε.set i (some (.dat a))).set j (some (.dat b))).set m (some (.dat c))) := fun k q => cg_tup3 q hK
theorem ei_sq {ds : List PyData} (h : EV C te ε L r L1) (s : SeqOf r ds) (hK : C.K = K := by rfl) : EI C (iSq K te) ε L ds L1 := fun k q => ci_sq (h _ ⟨ds, s, q⟩) hK
def enumI {α : Type} (xs : List α) : List (Int × α) := xs.zipIdx.map fun p => ((p.2 : Int), p.1)
theorem enum_map {α : Type} (e : α → PyData) (xs : List α) : enumD (xs.map e) = (enumI xs).map (eP2 eI e) := by
  unfold enumD enumI
  rw [List.zipIdx_map, List.map_map, List.map_map]
  rfl
theorem zip_map {α β : Type} (e : α → PyData) (e2 : β → PyData) (xs : List α) (ys : List β) : zipD (xs.map e) (ys.map e2) = (xs.zip ys).map (eP2 e e2) := by
  unfold zipD
  rw [List.zipWith_map, List.zip_eq_zipWith, List.map_zipWith]
theorem ei_en {α : Type} {e : α → PyData} {xs : List α} {ds : List PyData} (h : EV C te ε L r L1) (s : SeqOf r ds) (ed : ds = xs.map e) (hK : C.K = K := by rfl) : EI C (iEn K (tCons te tNil)) ε L ((enumI xs).map (eP2 eI e)) L1 := fun k q =>
  ci_en (ca_cons (h _ (ca_nil ⟨r, ds, rfl, s, by rw [ed, enum_map]; exact q⟩))) hK
theorem ei_zp {α β : Type} {e : α → PyData} {e2 : β → PyData} {xs : List α} {ys : List β} {ds es : List PyData} (h : EV C ta ε L x L1) (h2 : EV C tb ε L1 y L2) (s : SeqOf x ds) (s2 : SeqOf y es) (ed : ds = xs.map e) (ed2 : es = ys.map e2) (hK : C.K = K := by rfl) :
    EI C (iZp K (tCons ta (tCons tb tNil))) ε L ((xs.zip ys).map (eP2 e e2)) L2 := fun k q =>
  ci_zp (ca_cons (h _ (ca_cons (h2 _ (ca_nil ⟨x, y, ds, es, rfl, s, s2, by rw [ed, ed2, zip_map]; exact q⟩))))) hK
def rngI (lo hi : Int) : List Int := (List.range (hi - lo).toNat).map fun i : Nat => lo + (i : Int)
def rngD (hi lo : Int) : List Int := (List.range (hi - lo).toNat).map fun i : Nat => hi + (i : Int) * (-1)
theorem rng_map (lo hi : Int) : rng lo (hi - lo).toNat = (rngI lo hi).map eI := by
  unfold rng rngI
  rw [List.map_map]
  rfl
abbrev bnd (n : Int) : Prop := -(2 ^ 62) ≤ n ∧ n < 2 ^ 62
theorem ei_range1 {n : Int} (h : EV C te ε L (.dat (.int n)) L1) (hb : bnd n) : EI C (iRng1 (tCons te tNil)) ε L ((rngI 0 n).map eI) L1 := fun k q =>
  ci_range1 (ca_cons (h _ (ca_nil ⟨n, rfl, hb, by rw [← rng_map, Int.sub_zero] at q; exact q⟩)))
theorem ei_range2 {n m : Int} (h : EV C ta ε L (.dat (.int n)) L1) (h2 : EV C tb ε L1 (.dat (.int m)) L2) (hb : bnd n) (hb2 : bnd m) : EI C (iRng2 (tCons ta (tCons tb tNil))) ε L ((rngI n m).map eI) L2 := fun k q =>
  ci_range2 (ca_cons (h _ (ca_cons (h2 _ (ca_nil ⟨n, m, rfl, ⟨hb.1, hb.2, hb2.1, hb2.2⟩, by rw [← rng_map] at q; exact q⟩)))))
theorem ei_rangeD {n m : Int} (h : EV C ta ε L (.dat (.int n)) L1) (h2 : EV C tb ε L1 (.dat (.int m)) L2) (h3 : EV C tc ε L2 (.dat (.int (-1))) L3) (hb : bnd n) (hb2 : bnd m) : EI C (iRng3 (tCons ta (tCons tb (tCons tc tNil)))) ε L ((rngD n m).map eI) L3 := fun k q =>
  ci_rangeD (ca_cons (h _ (ca_cons (h2 _ (ca_cons (h3 _ (ca_nil ⟨n, m, rfl, ⟨hb.1, hb.2, hb2.1, hb2.2⟩, by
    unfold rngD at q
    rw [List.map_map] at q
    exact q⟩)))))))
/-! comprehensions -/
variable {wi wi1 : TI} {g g1 : TG} {vs vs1 : List Nat}
theorem ev_lc {α β : Type} {g0 : α → PyData} {e : β → PyData} {xs : List α} {t : α → Bool} {f : α → β} (hi : EI C wi ε L (xs.map g0) L1) (hz : xs.length < sizeLine)
    (hb : ∀ x ∈ xs, ∀ acc p, p ∉ L1.ks → ∃ ε2, EG (C0 C.K) g (.dat (g0 x)) (wipeE ε vs) (plus L1 p acc) ε2 ∧ ET (C0 C.K) tt ε2 (plus L1 p acc) (t x) (plus L1 p acc) ∧ (t x = true → EV (C0 C.K) te ε2 (plus L1 p acc) (.dat (e (f x))) (plus L1 p acc)))
    (ho : GOwn g vs) : EV C (tLc wi g tt te vs) ε L (.dat (eL e ((xs.filter t).map f))) L1 := fun k q => by
  refine cp_lcM α (hi _ ⟨by rw [List.length_map]; exact hz, xs, g0, fun x => if t x = true then some (e (f x)) else none, rfl, fun x hx acc p hp => ?_, ?_⟩) ho
  · obtain ⟨ε2, h1, h2, h3⟩ := hb x hx acc p hp
    refine h1 _ ⟨rfl, h2 _ ⟨rfl, ?_⟩⟩
    cases ht : t x with
    | true => exact h3 ht _ ⟨rfl, _, rfl, if_pos ht⟩
    | false => exact if_neg (by rw [ht]; decide)
  · rw [fm_if]
    rw [show eL e ((xs.filter t).map f) = PyData.list ((xs.filter t).map fun x => e (f x)) by unfold eL; rw [List.map_map]; rfl] at q
    exact q
theorem ev_lcA {α β : Type} {g0 : α → PyData} {e : β → PyData} {xs : List α} {f : α → β} (hi : EI C wi ε L (xs.map g0) L1) (hz : xs.length < sizeLine)
    (hb : ∀ x ∈ xs, ∀ acc p, p ∉ L1.ks → ∃ ε2, EG (C0 C.K) g (.dat (g0 x)) (wipeE ε vs) (plus L1 p acc) ε2 ∧ EV (C0 C.K) te ε2 (plus L1 p acc) (.dat (e (f x))) (plus L1 p acc))
    (ho : GOwn g vs) : EV C (tLc wi g tYes te vs) ε L (.dat (eL e (xs.map f))) L1 := by
  have q := ev_lc (t := fun _ => true) hi hz (fun x hx acc p hp => let ⟨a, b, c⟩ := hb x hx acc p hp; ⟨a, b, et_yes, fun _ => c⟩) ho
  rw [List.filter_eq_self.mpr fun _ _ => rfl] at q
  exact q
theorem fm_filter {α β : Type} (t : α → Bool) (f : α → β) (e : β → PyData) (l : List α) : l.filterMap (fun x => if t x = true then some (e (f x)) else none) = ((l.filter t).map f).map e := by
  rw [fm_if, List.map_map]
  rfl
/-- two for, each without a test but the second's -/
theorem ev_lc2 {α γ β : Type} {g0 : α → PyData} {g2 : γ → PyData} {e : β → PyData} {xs : List α} {ys : α → List γ} {t : α → γ → Bool} {f : α → γ → β} {tt1 : TT} (hi : EI C wi ε L (xs.map g0) L1)
    (hz : (xs.flatMap fun x => ((ys x).filter (t x)).map (f x)).length < sizeLine)
    (hb : ∀ x ∈ xs, ∀ acc p, p ∉ L1.ks → ∃ ε2, EG (C0 C.K) g (.dat (g0 x)) (wipeE ε vs) (plus L1 p acc) ε2 ∧ EI (C0 C.K) wi1 ε2 (plus L1 p acc) ((ys x).map g2) (plus L1 p acc) ∧
      ∀ y ∈ ys x, ∀ acc, ∃ ε3, EG (C0 C.K) g1 (.dat (g2 y)) (wipeE ε2 vs1) (plus L1 p acc) ε3 ∧ ET (C0 C.K) tt1 ε3 (plus L1 p acc) (t x y) (plus L1 p acc) ∧ (t x y = true → EV (C0 C.K) te ε3 (plus L1 p acc) (.dat (e (f x y))) (plus L1 p acc)))
    (ho : GOwn g vs) (ho1 : GOwn g1 vs1) : EV C (tLc2 wi g tYes wi1 g1 tt1 te vs vs1) ε L (.dat (eL e (xs.flatMap fun x => ((ys x).filter (t x)).map (f x)))) L1 := fun k q => by
  refine cp_lc2 (hi _ ⟨fun i acc => acc = ((xs.take i).flatMap fun x => ((ys x).filter (t x)).map (f x)).map e, rfl, fun i d acc0 p hd hI hp => ?_, fun acc hI => ?_⟩) ho ho1
  · obtain ⟨x, hx, rfl⟩ := map_get hd
    have hm : x ∈ xs := List.mem_of_getElem? hx
    have ht : xs.take (i + 1) = xs.take i ++ [x] := by rw [List.take_add_one, hx] <;> rfl
    obtain ⟨ε2, h1, h2, h3⟩ := hb x hm acc0 p hp
    have hI : acc0 = ((xs.take i).flatMap fun x => ((ys x).filter (t x)).map (f x)).map e := hI
    have hsz : acc0.length + (((ys x).filter (t x)).map (f x)).length < sizeLine := by
      have e2 : (xs.take i ++ [x] ++ xs.drop (i + 1)) = xs := by rw [← ht]; exact List.take_append_drop _ _
      have e3 : (xs.flatMap fun x => ((ys x).filter (t x)).map (f x)).length = acc0.length + (((ys x).filter (t x)).map (f x)).length + ((xs.drop (i + 1)).flatMap fun x => ((ys x).filter (t x)).map (f x)).length := by
        rw [hI, List.length_map]
        conv => lhs; rw [← e2]
        rw [List.flatMap_append, List.flatMap_append, List.length_append, List.length_append, List.flatMap_singleton]
      omega
    refine h1 _ ⟨rfl, ct_yes ⟨rfl, ?_⟩⟩
    rw [if_pos rfl]
    refine h2 _ ⟨rfl, fun j acc => acc = acc0 ++ (((((ys x).take j).filter (t x)).map (f x))).map e, by simp, fun j d2 acc hd2 hJ => ?_, fun acc hJ => ?_⟩
    · obtain ⟨y, hy, rfl⟩ := map_get hd2
      have hmy : y ∈ ys x := List.mem_of_getElem? hy
      have ht2 : (ys x).take (j + 1) = (ys x).take j ++ [y] := by rw [List.take_add_one, hy] <;> rfl
      obtain ⟨ε3, q1, q2, q3⟩ := h3 y hmy acc
      have hJ : acc = acc0 ++ (((((ys x).take j).filter (t x)).map (f x))).map e := hJ
      refine q1 _ ⟨rfl, q2 _ ⟨rfl, ?_⟩⟩
      cases hty : t x y with
      | true =>
        rw [if_pos rfl]
        refine ⟨?_, q3 hty _ ⟨rfl, _, rfl, ?_⟩⟩
        · have := (((List.take_sublist j (ys x)).filter (t x)).map (f x)).length_le
          rw [hJ, List.length_append, List.length_map]
          omega
        · show acc ++ [e (f x y)] = acc0 ++ (((((ys x).take (j + 1)).filter (t x)).map (f x))).map e
          rw [ht2, List.filter_append, List.filter_cons, hty, if_pos rfl, hJ, List.map_append, List.map_append, List.append_assoc]
          rfl
      | false =>
        rw [if_neg (by decide)]
        show acc = acc0 ++ (((((ys x).take (j + 1)).filter (t x)).map (f x))).map e
        rw [ht2, List.filter_append, List.filter_cons, hty, if_neg (by decide), hJ, List.map_append, List.map_append]
        simp
    · have hJ : acc = acc0 ++ (((((ys x).take ((ys x).map g2).length).filter (t x)).map (f x))).map e := hJ
      show acc = ((xs.take (i + 1)).flatMap fun x => ((ys x).filter (t x)).map (f x)).map e
      rw [hJ, List.length_map, List.take_length, ht, List.flatMap_append, List.map_append, ← hI, List.flatMap_singleton]
  · have hI : acc = ((xs.take (xs.map g0).length).flatMap fun x => ((ys x).filter (t x)).map (f x)).map e := hI
    rw [hI, List.length_map, List.take_length]
    exact q
/-- written on later -/
theorem ew_lcA {α β : Type} {g0 : α → PyData} {e : β → PyData} {xs : List α} {f : α → β} (hi : EI C wi ε L (xs.map g0) L1) (hz : xs.length < sizeLine)
    (hb : ∀ x ∈ xs, ∀ acc p, p ∉ L1.ks → ∃ ε2, EG (C0 C.K) g (.dat (g0 x)) (wipeE ε vs) (plus L1 p acc) ε2 ∧ EV (C0 C.K) te ε2 (plus L1 p acc) (.dat (e (f x))) (plus L1 p acc))
    (ho : GOwn g vs) : EW C (tLc wi g tYes te vs) ε L ((xs.map f).map e) L1 := fun k q => by
  refine cp_lcMO α (hi _ ⟨by rw [List.length_map]; exact hz, xs, g0, fun x => some (e (f x)), rfl, fun x hx acc p hp => ?_, fun p hp => ?_⟩) ho
  · obtain ⟨ε2, h1, h3⟩ := hb x hx acc p hp
    exact h1 _ ⟨rfl, ct_yes ⟨rfl, by rw [if_pos rfl]; exact h3 _ ⟨rfl, _, rfl, rfl⟩⟩⟩
  · have e2 : xs.filterMap (fun x => some (e (f x))) = (xs.map f).map e := by
      rw [List.map_map, ← List.filterMap_eq_map]
      rfl
    rw [e2]
    exact q p hp
end
end Y

set_option Elab.async false
set_option linter.all false
set_option maxRecDepth 100000
set_option maxHeartbeats 2000000
namespace Y
open PySem PySem.Spec PyProof.Rows L2 Z
/-! ### blocks -/
/-- what is fixed within a def's body: its answers as values (with the ledger), the ledger of its errors -/
structure Fx (ρ : Type) where
  C : Cz
  ca : Nat → Addr
  R : ρ → Rs → Led → Prop
  X : Ev → Led → Prop
section
variable {σ τ l ρ α β : Type}
abbrev NR (σ : Type) := σ → Ev → Led → Prop
def Acc (F : Fx ρ) (N : NR σ) (M : NR l) (P : Post) : Ctl σ l ρ → Prop
  | .bad => False
  | .nx s => ∀ ε L, N s ε L → P.nx ε L
  | .ct s => ∀ ε L, M s ε L → P.ct ε L
  | .bk s => ∀ ε L, M s ε L → P.bk ε L
  | .rt r => ∀ v L, F.R r v L → P.rt v L
  | .ex c => ∀ ε L, F.X ε L → F.C.kx (F.ca c) ε L
def HV (F : Fx ρ) (N : NR σ) (M : NR l) (t : TS) (ε : Ev) (L : Led) (o : Ctl σ l ρ) : Prop := ∀ P : Post, Acc F N M P o → HS F.C t ε L P
variable {F : Fx ρ} {N : NR σ} {M : NR l} {t u : TS} {ε ε' : Ev} {L L1 L2 : Led} {te : TE} {tt : TT} {r : Rs} {o o1 o2 : Ctl σ l ρ}
theorem hv_one (h : HV F N M (tSeq t tNext) ε L o) : HV F N M t ε L o := h
theorem hv_nx {s : σ} (h : N s ε L) : HV F N M tNext ε L (.nx s) := fun P A => hs_next (A ε L h)
theorem hv_ct {s : l} (h : M s ε L) : HV F N M tCont ε L (.ct s) := fun P A => hs_cont (A ε L h)
theorem hv_bk {s : l} (h : M s ε L) : HV F N M tBreak ε L (.bk s) := fun P A => hs_brk (A ε L h)
theorem hv_ret {v : ρ} (h : EV F.C te ε L r L1) (hr : F.R v r L1) : HV F N M (tRet te) ε L (.rt v) := fun P A => hs_ret (h _ (A r L1 hr))
theorem hv_retN {v : ρ} (hr : F.R v (.dat .none) L) : HV F N M tRetN ε L (.rt v) := fun P A => hs_retN (A _ L hr)
theorem hv_end {v : ρ} (hr : ∀ P : Post, Acc F N M P (.rt v) → P.nx ε L) : HV F N M tNext ε L (.rt v) := fun P A => hs_next (hr P A)
theorem hv_raise {c : Nat} {a : Addr} (e : a = F.ca c) (h : F.X ε L) : HV F N M (fun _ σ H => F.C.W (.ref a) none σ H) ε L (.ex c) := fun P A => hs_raise (by rw [e]; exact A ε L h)
theorem hv_grd {p : Prop} (h : p → HV F N M t ε L o) : HV F N M t ε L (grd p o) := fun P A => by
  unfold grd at A
  by_cases hp : p
  · rw [if_pos hp] at A
    exact h hp P A
  · rw [if_neg hp] at A
    exact A.elim
theorem hv_asg {i : Nat} (h : EV F.C te ε L r L1) (h2 : HV F N M u (ε.set i (some r)) L1 o) : HV F N M (tSeq (tAsg te (gName i)) u) ε L o := fun P A => hs_seq (hs_asg (h _ (h2 P A)))
theorem hv_set {i : Nat} {v : α} {e : α → PyData} {q : α → Ctl σ l ρ} (h : EV F.C te ε L (.dat (e v)) L1) (h2 : ∀ x, HV F N M u (ε.set i (some (.dat (e x)))) L1 (q x)) : HV F N M (tSeq (tAsg te (gName i)) u) ε L (lt v q) := hv_asg h (h2 v)
theorem hv_setG {g : TG} {v : α} {e : α → PyData} {q : α → Ctl σ l ρ} {ev : α → Ev} (h : EV F.C te ε L (.dat (e v)) L1) (hg : ∀ x, EG F.C g (.dat (e x)) ε L1 (ev x)) (h2 : ∀ x, HV F N M u (ev x) L1 (q x)) : HV F N M (tSeq (tAsg te g) u) ε L (lt v q) := fun P A =>
  hs_seq (hs_asgG (h _ (hg v _ (h2 v P A))))
/-- a new list that is written on -/
theorem hv_own {i : Nat} {v : List α} {e : α → PyData} {q : List α → Ctl σ l ρ} (h : EW F.C te ε L (v.map e) L1) (h2 : ∀ p x, p ∉ L1.ks → HV F N M u (ε.set i (some (.own p))) (plus L1 p (x.map e)) (q x)) : HV F N M (tSeq (tAsg te (gName i)) u) ε L (lt v q) := fun P A =>
  hs_seq (hs_asg (h _ fun p hp => h2 p v hp P A))
theorem hv_drop (h : EV F.C te ε L r L1) (h2 : HV F N M u ε L1 o) : HV F N M (tSeq (tDrop te) u) ε L o := fun P A => hs_seq (hs_drop (h _ (h2 P A)))
/-- two stores at once -/
theorem hv_par {i j : Nat} {a b : PyData} {tA : TA} (h : EA F.C tA ε L [.dat a, .dat b] L1) (h2 : HV F N M u ((ε.set i (some (.dat a))).set j (some (.dat b))) L1 o) : HV F N M (tSeq (tPar i j tA) u) ε L o := fun P A =>
  hs_seq (hs_par (h _ ⟨_, _, rfl, h2 P A⟩))
theorem hv_par3 {i j k : Nat} {a b c : PyData} {tA : TA} (h : EA F.C tA ε L [.dat a, .dat b, .dat c] L1) (h2 : HV F N M u (((ε.set i (some (.dat a))).set j (some (.dat b))).set k (some (.dat c))) L1 o) : HV F N M (tSeq (tPar3 i j k tA) u) ε L o := fun P A =>
  hs_seq (hs_par3 (h _ ⟨_, _, _, rfl, h2 P A⟩))
theorem hv_aug {i : Nat} {ti : TIp} {x z : Rs} {y : Rs} (hx : ε[i]? = some (some x)) (h : EV F.C te ε L y L1) (ho : ∀ k, k z L2 → OD F.C ti x y L1 k) (h2 : HV F N M u (ε.set i (some z)) L2 o) : HV F N M (tSeq (tAug i te ti) u) ε L o := fun P A =>
  hs_seq (hs_aug hx (h _ (ho _ (h2 P A))))
theorem hv_augS {i : Nat} {ti : TIp} {x : Rs} {y : Rs} {v : α} {e : α → PyData} {q : α → Ctl σ l ρ} (hx : ε[i]? = some (some x)) (h : EV F.C te ε L y L1) (ho : ∀ k, k (.dat (e v)) L2 → OD F.C ti x y L1 k) (h2 : ∀ w, HV F N M u (ε.set i (some (.dat (e w)))) L2 (q w)) : HV F N M (tSeq (tAug i te ti) u) ε L (lt v q) := hv_aug hx h ho (h2 v)
/-- a name for a plain value -/
theorem hv_lt {v : α} {q : α → Ctl σ l ρ} (h : ∀ x, HV F N M t ε L (q x)) : HV F N M t ε L (lt v q) := h v
/-! if -/
theorem hv_ifL {b : Bool} (h : ET F.C tt ε L b L1) (h1 : b = true → HV F N M t ε L1 o1) (h2 : b = false → HV F N M u ε L1 o2) : HV F N M (tIfS tt t u) ε L (bif b then o1 else o2) := fun P A => hs_if (h _ (by
  cases b with
  | true => exact h1 rfl P A
  | false => exact h2 rfl P A))
/-- the first way leads out -/
theorem hv_if1 {b : Bool} (h : ET F.C tt ε L b L1) (h1 : b = true → HV F (fun _ _ _ => False) M t ε L1 o1) (h2 : b = false → HV F N M u ε L1 o2) : HV F N M (tSeq (tIfS tt t tNext) u) ε L (bif b then o1 else o2) := fun P A => hs_seq (hs_if (h _ (by
  cases b with
  | true =>
    refine h1 rfl _ ?_
    show Acc F (fun _ _ _ => False) M _ o1
    have A : Acc F N M P o1 := A
    cases o1 with
    | nx s => exact fun _ _ f => f.elim
    | bad => exact A
    | ct s => exact A
    | bk s => exact A
    | rt r => exact A
    | ex c => exact A
  | false => exact hs_next (h2 rfl P A))))
theorem acc_bind {J : NR τ} {P : Post} {o : Ctl τ l ρ} {q : τ → Ctl σ l ρ} (A : Acc F N M P (o.bind q)) (h : ∀ s ε' L', J s ε' L' → HV F N M u ε' L' (q s)) : Acc F J M { P with nx := fun e l => HS F.C u e l P } o := by
  cases o with
  | nx s => exact fun ε' L' j => h s ε' L' j P A
  | bad => exact A
  | ct s => exact A
  | bk s => exact A
  | rt r => exact A
  | ex c => exact A
/-- a block, then another -/
theorem hv_bind (J : NR τ) {o : Ctl τ l ρ} {q : τ → Ctl σ l ρ} (h1 : HV F J M t ε L o) (h2 : ∀ s ε' L', J s ε' L' → HV F N M u ε' L' (q s)) : HV F N M (tSeq t u) ε L (o.bind q) := fun P A => hs_seq (h1 _ (acc_bind A h2))
/-! loops -/
theorem acc_for {J : NR σ} {P : Post} {f : α → σ → Ctl σ σ ρ} {xs : List α} {s : σ} (A : Acc F J M P (forC xs s f)) : ∀ {x r}, xs = x :: r → Acc F J J { P with nx := fun e l => ∃ s', J s' e l ∧ Acc F J M P (forC r s' f), ct := fun e l => ∃ s', J s' e l ∧ Acc F J M P (forC r s' f), bk := P.nx } (f x s) := by
  intro x r e
  subst e
  unfold forC at A
  cases hf : f x s with
  | bad => rw [hf] at A; exact A
  | nx s' => rw [hf] at A; exact fun ε' L' j => ⟨s', j, A⟩
  | ct s' => rw [hf] at A; exact fun ε' L' j => ⟨s', j, A⟩
  | bk s' => rw [hf] at A; exact A
  | rt r => rw [hf] at A; exact A
  | ex c => rw [hf] at A; exact A
theorem hv_for (J : NR σ) {wi : TI} {g : TG} {tb : TS} {xs : List α} {g0 : α → PyData} {s0 : σ} {f : α → σ → Ctl σ σ ρ} (hi : EI F.C wi ε L (xs.map g0) L1) (h0 : J s0 ε L1)
    (hb : ∀ x s ε' L', J s ε' L' → ∃ ε2, EG F.C g (.dat (g0 x)) ε' L' ε2 ∧ HV F J J tb ε2 L' (f x s)) : HV F J M (tFor wi g tb) ε L (forC xs s0 f) := fun P A => by
  refine hs_for (hi _ ⟨fun i ε' L' => ∃ s, J s ε' L' ∧ Acc F J M P (forC (xs.drop i) s f), ⟨s0, h0, A⟩, ?_, ?_⟩)
  · rintro i d ε' L' hd ⟨s, hj, hA⟩
    obtain ⟨x, hx, rfl⟩ := map_get hd
    obtain ⟨ε2, h1, h2⟩ := hb x s ε' L' hj
    have hl : i < xs.length := (List.getElem?_eq_some_iff.mp hx).1
    have ed : xs.drop i = x :: xs.drop (i + 1) := by
      rw [List.drop_eq_getElem_cons hl]
      congr 1
      have := List.getElem?_eq_getElem hl
      rw [this] at hx
      exact Option.some.inj hx
    exact h1 _ (h2 _ (acc_for hA ed))
  · rintro ε' L' ⟨s, hj, hA⟩
    rw [List.length_map, List.drop_length] at hA
    exact hA ε' L' hj
/-- a while loop's turn: the test, then the body, or out -/
def WH (F : Fx ρ) (J : NR σ) (tc : TT) (tb : TS) (ε : Ev) (L : Led) (o : Ctl σ σ ρ) : Prop := ∀ P : Post, Acc F J J P o → CT F.C tc ε L fun b L2 => if b = true then HS F.C tb ε L2 P else P.bk ε L2
theorem wh_grd {J : NR σ} {tc : TT} {tb : TS} {p : Prop} {o : Ctl σ σ ρ} (h : p → WH F J tc tb ε L o) : WH F J tc tb ε L (grd p o) := fun P A => by
  unfold grd at A
  by_cases hp : p
  · rw [if_pos hp] at A
    exact h hp P A
  · rw [if_neg hp] at A
    exact A.elim
theorem wh_if {J : NR σ} {tc : TT} {tb : TS} {b : Bool} {s : σ} {o : Ctl σ σ ρ} (h : ET F.C tc ε L b L) (hj : J s ε L) (h1 : b = true → HV F J J tb ε L o) : WH F J tc tb ε L (bif b then o else .bk s) := fun P A => h _ (by
  cases b with
  | true => exact h1 rfl P A
  | false => exact A ε L hj)
theorem least_of {G : Nat → Prop} (h : ∃ m, G m) : ∃ m, G m ∧ ∀ j, G j → m ≤ j := by
  obtain ⟨m, hm⟩ := h
  induction m using Nat.strongRecOn with
  | _ m ih =>
    by_cases h : ∃ j, j < m ∧ G j
    · obtain ⟨j, hj, hg⟩ := h
      exact ih j hj hg
    · exact ⟨m, hm, fun j hj => Nat.le_of_not_lt fun z => h ⟨j, z, hj⟩⟩
open Classical in
theorem hv_while (J : NR σ) {tc : TT} {tb : TS} {s0 : σ} {f : σ → Ctl σ σ ρ} {n : Nat} (h0 : J s0 ε L)
    (hb : ∀ s ε' L', J s ε' L' → WH F J tc tb ε' L' (f s)) : HV F J M (tWhile tc tb) ε L (whileC f n s0) := fun P A => by
  let G : Nat → Ev → Led → Prop := fun m ε' L' => ∃ s, J s ε' L' ∧ Acc F J M P (whileC f m s)
  let μ : Ev → Led → Nat := fun ε' L' => if h : ∃ m, G m ε' L' then Classical.choose (least_of h) else 0
  have μ_sp : ∀ {m ε' L'}, G m ε' L' → G (μ ε' L') ε' L' ∧ ∀ j, G j ε' L' → μ ε' L' ≤ j := fun {m ε' L'} h => by
    have e : μ ε' L' = Classical.choose (least_of (⟨m, h⟩ : ∃ m, G m ε' L')) := dif_pos ⟨m, h⟩
    rw [e]
    exact Classical.choose_spec (least_of (⟨m, h⟩ : ∃ m, G m ε' L'))
  have μ_le : ∀ {m ε' L'}, G m ε' L' → μ ε' L' ≤ m := fun h => (μ_sp h).2 _ h
  refine hs_while (fun ε' L' => ∃ m, G m ε' L') μ ⟨n, s0, h0, A⟩ ?_
  rintro ε' L' ⟨m, hm⟩
  obtain ⟨s, hj, hA⟩ := (μ_sp hm).1
  generalize hn : μ ε' L' = k at hA
  cases k with
  | zero => exact hA.elim
  | succ k =>
    refine hb s ε' L' hj { P with nx := fun e l => (∃ m, G m e l) ∧ μ e l < k + 1, ct := fun e l => (∃ m, G m e l) ∧ μ e l < k + 1, bk := P.nx } ?_
    unfold whileC at hA
    cases hf : f s with
    | bad => rw [hf] at hA; exact hA
    | nx s' => rw [hf] at hA; exact fun ε2 L2 j => ⟨⟨k, s', j, hA⟩, Nat.lt_succ_of_le (μ_le ⟨s', j, hA⟩)⟩
    | ct s' => rw [hf] at hA; exact fun ε2 L2 j => ⟨⟨k, s', j, hA⟩, Nat.lt_succ_of_le (μ_le ⟨s', j, hA⟩)⟩
    | bk s' => rw [hf] at hA; exact hA
    | rt r => rw [hf] at hA; exact hA
    | ex c => rw [hf] at hA; exact hA
end
/-! ### written lists -/
section
variable {σ τ l ρ α β : Type} {F : Fx ρ} {N : NR σ} {M : NR l} {t u : TS} {ε ε' : Ev} {L L1 L2 : Led} {te ti to : TE} {o : Ctl σ l ρ} {K : PySem.W.Frag} {C : Cz}
theorem up_plus_ne {M2 : Led} {p q : Addr} {A : List PyData} {m : Mo} (h : p ≠ q) : up (plus M2 q A) p m = plus (up M2 p m) q A := by
  unfold up plus
  rw [List.map_append]
  congr 1
  simp [Ne.symm h]
theorem out_plus {M2 : Led} {p q : Addr} {A : List PyData} (h : q ∉ (plus M2 p A).ks) : q ∉ M2.ks := fun z => h (keeps_own q z)
theorem ne_plus {M2 : Led} {p q : Addr} {A : List PyData} (h : q ∉ (plus M2 p A).ks) : p ≠ q := fun z => h (by rw [← z]; exact Led.key plus_mem)
theorem out_up {M2 : Led} {p q : Addr} {m : Mo} (h : q ∉ (up M2 p m).ks) : q ∉ M2.ks := by rw [up_ks] at h; exact h
theorem in_up {M2 : Led} {p q : Addr} {m : Mo} (h : q ∉ M2.ks) : q ∉ (up M2 p m).ks := by rw [up_ks]; exact h
/-- x.append(e) -/
theorem ev_append {i : Nat} {p : Addr} {ds : List PyData} {d : PyData} (hx : ε[i]? = some (some (.own p))) {d0 : List PyData} (hm0 : (p, .lst d0) ∈ L) (h : EV C te ε L (.dat d) L1) (hm : (p, .lst ds) ∈ L1) (hz : ds.length < sizeLine) (hK : C.K = K := by rfl) :
    EV C (tBM K "list" rAppend (tVar i) (tCons te tNil)) ε L (.dat .none) (up L1 p (.lst (ds ++ [d]))) := fun k q =>
  cp_bm (cp_var hx ⟨⟨_, hm0, rfl⟩, ca_cons (h _ (ca_nil (md_append hm hz q)))⟩) hK
theorem ev_extend {i : Nat} {p : Addr} {ds es : List PyData} (hx : ε[i]? = some (some (.own p))) {d0 : List PyData} (hm0 : (p, .lst d0) ∈ L) (h : EV C te ε L (.dat (.list es)) L1) (hm : (p, .lst ds) ∈ L1) (hz : ds.length + es.length ≤ sizeLine) (hK : C.K = K := by rfl) :
    EV C (tBM K "list" rExtend (tVar i) (tCons te tNil)) ε L (.dat .none) (up L1 p (.lst (ds ++ es))) := fun k q =>
  cp_bm (cp_var hx ⟨⟨_, hm0, rfl⟩, ca_cons (h _ (ca_nil (md_extend hm hz q)))⟩) hK
theorem ev_reverse {i : Nat} {p : Addr} {ds : List PyData} (hx : ε[i]? = some (some (.own p))) (hm : (p, .lst ds) ∈ L) (hK : C.K = K := by rfl) :
    EV C (tBM0 K "list" rReverse (tVar i)) ε L (.dat .none) (up L p (.lst ds.reverse)) := fun k q => cp_bm0 (cp_var hx ⟨⟨_, hm, rfl⟩, md_reverse hm q⟩) hK
theorem ev_pop {i : Nat} {p : Addr} {ds : List PyData} {d : PyData} (hx : ε[i]? = some (some (.own p))) (hm : (p, .lst ds) ∈ L) (e : ds[ds.length - 1]? = some d) (hK : C.K = K := by rfl) :
    EV C (tBM0 K "list" rPop (tVar i)) ε L (.dat d) (up L p (.lst ds.dropLast)) := fun k q => cp_bm0 (cp_var hx ⟨⟨_, hm, rfl⟩, md_pop hm e q⟩) hK
/-- behind a write to an owned list: its new content by name -/
theorem hv_wr {p : Addr} {v : List α} {e : α → PyData} {q : List α → Ctl σ l ρ} {Lf : List α → Led} {r : Rs} (h : EV F.C te ε L r L1) (hL : L1 = Lf v) (h2 : ∀ x, HV F N M u ε (Lf x) (q x)) : HV F N M (tSeq (tDrop te) u) ε L (lt v q) := hv_drop h (by rw [hL]; exact h2 v)
/-- xs[i] = e -/
theorem hv_setL {p : Addr} {v : List α} {e : α → PyData} {q : List α → Ctl σ l ρ} {Lf : List α → Led} {ds : List PyData} {d : PyData} {i : Int} {j : Nat} (h : EV F.C te ε L (.dat d) L1) (ho : EV F.C to ε L1 (.own p) L1) (hi : EV F.C ti ε L1 (.dat (.int i)) L1) (hm : (p, .lst ds) ∈ L1) (hj : ixN ds.length i = some j)
    (hL : up L1 p (.lst (ds.set j d)) = Lf v) (h2 : ∀ x, HV F N M u ε (Lf x) (q x)) : HV F N M (tSeq (tAsg te (gSub to ti rSetL)) u) ε L (lt v q) := fun P A =>
  hs_seq (hs_setL (h _ ⟨d, rfl, ho _ ⟨p, rfl, hi _ ⟨ds, i, j, rfl, hm, hj, by rw [hL]; exact h2 v P A⟩⟩⟩))
/-- a written list is data from now on -/
theorem hv_frz {p : Addr} {ds : List PyData} (hp : p ∉ L.ks) (ho : ∀ a, some (Rs.own a) ∈ ε → a = p ∨ a ∈ L.ks) (h : HV F N M t (ε.map (frz p ds)) L o) : HV F N M t ε (plus L p ds) o := fun P A => hs_frz hp ho (h P A)
theorem hv_wk {M2 : Led} (w : Wk L M2) (e : EvWk L M2 ε ε') (h : HV F N M t ε' M2 o) : HV F N M t ε L o := fun P A => hs_wk w e (h P A)
end
/-! ### a def -/
section
variable {ρ : Type} {K : PySem.W.Frag}
/-- its answer is data, its ledger goes on as L2 -/
def RF (enc : ρ → PyData) (Lf : ρ → Led) : ρ → Rs → Led → Prop := fun r v L' => Wk L' (Lf r) ∧ RsWk L' (Lf r) v (.dat (enc r))
theorem rf_dat {enc : ρ → PyData} {Lf : ρ → Led} {r : ρ} {d : PyData} {L' : Led} (e : d = enc r) (w : Wk L' (Lf r)) : RF enc Lf r (.dat d) L' := by
  subst e
  exact ⟨w, .dat _⟩
theorem rf_own {enc : ρ → PyData} {Lf : ρ → Led} {r : ρ} {p : Addr} {ds : List PyData} {L' : Led} (e : enc r = .list ds) (m : (p, .lst ds) ∈ L') (h : p ∉ (Lf r).ks) (w : Wk L' (Lf r)) : RF enc Lf r (.own p) L' := by
  refine ⟨w, ?_⟩
  rw [e]
  exact .frz m h
theorem fin0 {ca : Nat → Addr} {enc : ρ → PyData} {Lf : ρ → Led} {L : Led} {k : Rs → Led → Prop} {x : Addr → Led → Prop} {t : TS} {ε : Ev} {o : Ctl Unit Unit ρ} {X : Ev → Led → Prop} (hk : ∀ r, Keeps L (Lf r)) (A : AccR ca (run o) (fun r => k (.dat (enc r)) (Lf r)) fun _ => False)
    (h : HV ⟨C0 K, ca, RF enc Lf, X⟩ (fun _ _ _ => False) (fun _ _ _ => False) t ε L o) : HS (C0 K) t ε L (dPost L k) := h _ (by
  cases o with
  | nx s => exact A.elim
  | bad => exact A.elim
  | ct s => exact A.elim
  | bk s => exact A.elim
  | rt r => exact fun v L' hr => ⟨Lf r, _, hr.1, hr.2, hk r, A⟩
  | ex c => exact A.elim)
theorem finX {ca : Nat → Addr} {enc : ρ → PyData} {Lf : ρ → Led} {L : Led} {k : Rs → Led → Prop} {x : Addr → Led → Prop} {t : TS} {ε : Ev} {o : Ctl Unit Unit ρ} {W : WX} (hk : ∀ r, Keeps L (Lf r)) (A : AccR ca (run o) (fun r => k (.dat (enc r)) (Lf r)) fun c => x c L)
    (h : HV ⟨⟨K, W, fun c _ L' => Keeps L L' ∧ x c L'⟩, ca, RF enc Lf, fun _ L' => L' = L⟩ (fun _ _ _ => False) (fun _ _ _ => False) t ε L o) : HS ⟨K, W, fun c _ L' => Keeps L L' ∧ x c L'⟩ t ε L (dPost L k) := h _ (by
  cases o with
  | nx s => exact A.elim
  | bad => exact A.elim
  | ct s => exact A.elim
  | bk s => exact A.elim
  | rt r => exact fun v L' hr => ⟨Lf r, _, hr.1, hr.2, hk r, A⟩
  | ex c =>
    intro ε' L' e
    have e' : L' = L := e
    subst e'
    exact ⟨Keeps.refl _, A⟩)
theorem fin0N {ca : Nat → Addr} {L : Led} {k : Rs → Led → Prop} {x : Addr → Led → Prop} {t : TS} {ε : Ev} {o : Ctl Unit Unit Unit} {X : Ev → Led → Prop} (A : AccR ca (runN o) (fun _ => k (.dat .none) L) fun _ => False)
    (h : HV ⟨C0 K, ca, RF eN fun _ => L, X⟩ (fun _ _ L' => Wk L' L) (fun _ _ _ => False) t ε L o) : HS (C0 K) t ε L (dPost L k) := h _ (by
  cases o with
  | nx s => exact fun ε' L' w => ⟨L, _, w, .dat _, Keeps.refl _, A⟩
  | bad => exact A.elim
  | ct s => exact A.elim
  | bk s => exact A.elim
  | rt r => exact fun v L' hr => ⟨L, _, hr.1, hr.2, Keeps.refl _, A⟩
  | ex c => exact A.elim)
theorem finXN {ca : Nat → Addr} {L : Led} {k : Rs → Led → Prop} {x : Addr → Led → Prop} {t : TS} {ε : Ev} {o : Ctl Unit Unit Unit} {W : WX} (A : AccR ca (runN o) (fun _ => k (.dat .none) L) fun c => x c L)
    (h : HV ⟨⟨K, W, fun c _ L' => Keeps L L' ∧ x c L'⟩, ca, RF eN fun _ => L, fun _ L' => L' = L⟩ (fun _ _ L' => Wk L' L) (fun _ _ _ => False) t ε L o) : HS ⟨K, W, fun c _ L' => Keeps L L' ∧ x c L'⟩ t ε L (dPost L k) := h _ (by
  cases o with
  | nx s => exact fun ε' L' w => ⟨L, _, w, .dat _, Keeps.refl _, A⟩
  | bad => exact A.elim
  | ct s => exact A.elim
  | bk s => exact A.elim
  | rt r => exact fun v L' hr => ⟨L, _, hr.1, hr.2, Keeps.refl _, A⟩
  | ex c =>
    intro ε' L' e
    have e' : L' = L := e
    subst e'
    exact ⟨Keeps.refl _, A⟩)
/-- a def that may raise, called where nothing may be raised -/
abbrev d0 (d : DSp) : DSp := fun rs L k _ => d rs L k fun _ _ => False
theorem has0 {P : Program} {w : World} {mg : Str → Option Value} {base : Heap} {k : Nat} {x : Str} {ps : List Str} {d : DSp} (h : HasX P w K mg base k x ps d) : Has P w K mg base k x ps (d0 d) := by
  obtain ⟨f, fd, a, b, c, F⟩ := h
  refine ⟨f, fd, a, b, c, ?_⟩
  have key : ∀ vs H Q E, lift K (d0 d) vs H Q E → lift K d vs H Q E0 := fun vs H Q E ⟨rs, L, k, x, o, l, hd, z, _⟩ => ⟨rs, L, k, _, o, l, hd, z, fun _ _ _ _ _ _ f => f.elim⟩
  refine ⟨fun vs H Q E q => F.len vs H Q E0 (key _ _ _ _ q), fun A outer s H args us vs Q E hr he hb hv hs => codeAny_mono (F.run A outer s H args us vs Q E0 hr he hb hv (key _ _ _ _ hs)) fun r s' hq => ?_⟩
  cases r with
  | ok fl => cases fl <;> exact hq
  | error e =>
    obtain ⟨_, _, _, _, _, _, _, _, _, _, _, _, f⟩ := hq
    exact f.elim
end
end Y

set_option Elab.async false
set_option linter.all false
set_option maxRecDepth 100000
set_option maxHeartbeats 2000000
namespace Y
open PySem PySem.Spec PyProof.Rows L2 Z
/-! ### types of values -/
structure Ty (α : Type) where
  e : α → PyData
  f : PyData → α
  p : PyData → Bool
  pe : ∀ a, p (e a) = true
  fe : ∀ a, f (e a) = a
  ok : ∀ d, p d = true → d = e (f d)
def tyI : Ty Int := ⟨eI, fun | .int i => i | _ => 0, fun | .int _ => true | _ => false, fun _ => rfl, fun _ => rfl, fun d h => by cases d <;> first | rfl | cases h⟩
def tyB : Ty Bool := ⟨eB, fun | .bool i => i | _ => false, fun | .bool _ => true | _ => false, fun _ => rfl, fun _ => rfl, fun d h => by cases d <;> first | rfl | cases h⟩
def tyS : Ty Str := ⟨eS, fun | .str i => i | _ => ⟨#[]⟩, fun | .str _ => true | _ => false, fun _ => rfl, fun _ => rfl, fun d h => by cases d <;> first | rfl | cases h⟩
def tyN : Ty Unit := ⟨eN, fun _ => (), isNoneD, fun _ => rfl, fun _ => rfl, fun d h => by cases d <;> first | rfl | cases h⟩
def tyD : Ty PyData := ⟨eD, fun d => d, fun _ => true, fun _ => rfl, fun _ => rfl, fun d h => rfl⟩
section
variable {α β γ : Type}
theorem tyMap (t : Ty α) : ∀ {ds : List PyData}, ds.all t.p = true → ds = (ds.map t.f).map t.e
  | [], _ => rfl
  | d :: r, h => by
    rw [List.all_cons, Bool.and_eq_true] at h
    rw [List.map_cons, List.map_cons, ← tyMap t h.2, ← t.ok d h.1]
theorem tyAll (t : Ty α) (xs : List α) : (xs.map t.e).all t.p = true := by
  rw [List.all_map, List.all_eq_true]
  exact fun x _ => t.pe x
theorem tyBack (t : Ty α) (xs : List α) : (xs.map t.e).map t.f = xs := by
  rw [List.map_map]
  exact (List.map_congr_left fun x _ => t.fe x).trans (List.map_id xs)
def tyL (t : Ty α) : Ty (List α) := ⟨eL t.e, fun | .list ds => ds.map t.f | _ => [], fun | .list ds => ds.all t.p | _ => false, fun xs => tyAll t xs, fun xs => tyBack t xs, fun d h => by
  cases d with
  | list ds => exact congrArg PyData.list (tyMap t h)
  | _ => cases h⟩
def tyT (t : Ty α) : Ty (List α) := ⟨eT t.e, fun | .tuple ds => ds.map t.f | _ => [], fun | .tuple ds => ds.all t.p | _ => false, fun xs => tyAll t xs, fun xs => tyBack t xs, fun d h => by
  cases d with
  | tuple ds => exact congrArg PyData.tuple (tyMap t h)
  | _ => cases h⟩
def tyP2 (a : Ty α) (b : Ty β) : Ty (α × β) := ⟨eP2 a.e b.e, fun | .tuple [x, y] => (a.f x, b.f y) | _ => (a.f .none, b.f .none), fun | .tuple [x, y] => a.p x && b.p y | _ => false, fun q => by
  show (a.p (a.e q.1) && b.p (b.e q.2)) = true
  rw [a.pe, b.pe]
  rfl, fun q => by
  show (a.f (a.e q.1), b.f (b.e q.2)) = q
  rw [a.fe, b.fe], fun d h => by
  match d, h with
  | .tuple [x, y], h =>
    rw [Bool.and_eq_true] at h
    show PyData.tuple [x, y] = .tuple [a.e (a.f x), b.e (b.f y)]
    rw [← a.ok x h.1, ← b.ok y h.2]⟩
end
/-! ### items, slices -/
section
variable {α β : Type}
def ix [Inhabited α] (xs : List α) (i : Int) : α := (atI xs i).getD default
abbrev okIx (xs : List α) (i : Int) : Prop := (atI xs i).isSome = true
theorem atI_map (e : α → β) (xs : List α) (i : Int) : atI (xs.map e) i = (atI xs i).map e := by
  unfold atI
  rw [List.length_map]
  cases ixN xs.length i with
  | none => rfl
  | some j => exact List.getElem?_map
theorem atI_ix [Inhabited α] {xs : List α} {i : Int} (h : okIx xs i) (e : α → β) : atI (xs.map e) i = some (e (ix xs i)) := by
  rw [atI_map]
  unfold ix
  have h : (atI xs i).isSome = true := h
  cases q : atI xs i with
  | none =>
    rw [q] at h
    cases h
  | some v => rfl
theorem cut_map (e : α → β) (xs : List α) (lo hi : Option Int) : Z.cutD (xs.map e) lo hi = (Z.cutD xs lo hi).map e := by
  unfold Z.cutD
  rw [List.length_map, List.map_take, List.map_drop]
variable {C : Cz} {L : Led} {k : Rs → Led → Prop} {K : PySem.W.Frag} {e : α → PyData}
theorem od_ixL [Inhabited α] {xs : List α} {i : Int} (h : okIx xs i) (q : k (.dat (e (ix xs i))) L) (hK : C.K = K := by rfl) : OD C (rIx K) (.dat (eL e xs)) (.dat (.int i)) L k := od_ix_lst (atI_ix h e) q hK
theorem od_ixT [Inhabited α] {xs : List α} {i : Int} (h : okIx xs i) (q : k (.dat (e (ix xs i))) L) (hK : C.K = K := by rfl) : OD C (rIx K) (.dat (eT e xs)) (.dat (.int i)) L k := od_ix_tup (atI_ix h e) q hK
theorem od_ixO [Inhabited α] {a : Addr} {xs : List α} {i : Int} (m : (a, .lst (xs.map e)) ∈ L) (h : okIx xs i) (q : k (.dat (e (ix xs i))) L) (hK : C.K = K := by rfl) : OD C (rIx K) (.own a) (.dat (.int i)) L k := od_ix_own m (atI_ix h e) q hK
/-- an item of a tuple of fixed form -/
theorem od_ixP {ds : List PyData} {i : Int} {d : PyData} (h : atI ds i = some d) (q : k (.dat d) L) (hK : C.K = K := by rfl) : OD C (rIx K) (.dat (.tuple ds)) (.dat (.int i)) L k := od_ix_tup h q hK
def ixS (z : Str) (i : Int) : Str := ⟨#[(atI z.cps.toList i).getD 0]⟩
theorem od_ixS {z : Str} {i : Int} (hz : z.length ≤ sizeLine) (h : okIx z.cps.toList i) (q : k (.dat (.str (ixS z i))) L) : OD C (rIx K) (.dat (.str z)) (.dat (.int i)) L k := by
  have h : (atI z.cps.toList i).isSome = true := h
  unfold ixS at q
  cases e : atI z.cps.toList i with
  | none =>
    rw [e] at h
    cases h
  | some c =>
    rw [e] at q
    exact od_ix_str hz e q
theorem sd_tupE {xs : List α} {lo hi : Option Int} (q : k (.dat (eT e (Z.cutD xs lo hi))) L) (hK : C.K = K := by rfl) : SD C (rSlZ K) (.dat (eT e xs)) lo hi L k := sd_tup (by rw [cut_map]; exact q) hK
theorem sd_lstE {xs : List α} {lo hi : Option Int} (q : k (.dat (eL e (Z.cutD xs lo hi))) L) : SD C (rSlZ K) (.dat (eL e xs)) lo hi L k := sd_lst (by rw [cut_map]; exact q)
def cutStr (z : Str) (lo hi : Option Int) : Str := ⟨(Z.cutD z.cps.toList lo hi).toArray⟩
theorem sd_strE {z : Str} {lo hi : Option Int} (hz : z.length ≤ sizeLine) (q : k (.dat (.str (cutStr z lo hi))) L) : SD C (rSlZ K) (.dat (.str z)) lo hi L k := sd_str hz q
theorem eo_none {ε : Ev} : EO C tNoPart ε L none L := fun k q => co_none q
theorem eo_some {ε : Ev} {te : TE} {i : Int} {L1 : Led} (h : EV C te ε L (.dat (.int i)) L1) : EO C (tPart te) ε L (some i) L1 := fun k q => co_some (h _ ⟨i, rfl, q⟩)
theorem ev_sl {ε : Ev} {te : TE} {tl th : TO} {r : V → Option Int → Option Int → Hp → VK → Prop} {x z : Rs} {lo hi : Option Int} {L1 L2 L3 : Led} (h : EV C te ε L x L1) (h1 : EO C tl ε L1 lo L2) (h2 : EO C th ε L2 hi L3) (h3 : ∀ k, k z L3 → SD C r x lo hi L3 k) : EV C (tSl r te tl th) ε L z L3 := fun k q =>
  cp_sl (h _ (h1 _ (h2 _ (h3 _ q))))
/-! ### sums, lengths -/
theorem od_addL {xs ys : List α} (h : xs.length + ys.length ≤ sizeLine) (q : k (.dat (eL e (xs ++ ys))) L) : OD C (rAddZ K) (.dat (eL e xs)) (.dat (eL e ys)) L k := od_add_lst (by rw [List.length_map, List.length_map]; exact h) (by rw [← List.map_append]; exact q)
theorem od_addT {xs ys : List α} (h : xs.length + ys.length ≤ sizeLine) (q : k (.dat (eT e (xs ++ ys))) L) (hK : C.K = K := by rfl) : OD C (rAddZ K) (.dat (eT e xs)) (.dat (eT e ys)) L k := od_add_tup (by rw [List.length_map, List.length_map]; exact h) (by rw [← List.map_append]; exact q) hK
theorem od_addW {xs ys : List α} (h : xs.length + ys.length ≤ sizeLine) (q : ∀ p, p ∉ L.ks → k (.own p) (plus L p ((xs ++ ys).map e))) : OD C (rAddZ K) (.dat (eL e xs)) (.dat (eL e ys)) L k := od_add_own (by rw [List.length_map, List.length_map]; exact h) (by rw [← List.map_append]; exact q)
theorem rep_map {xs : List α} (n : Nat) : (List.replicate n (xs.map e)).flatten = ((List.replicate n xs).flatten).map e := by
  rw [List.map_flatten, List.map_replicate]
theorem od_mulL {xs : List α} {n : Int} (h : -(2 ^ 63) ≤ n ∧ n < 2 ^ 63 ∧ xs.length * n.toNat ≤ sizeLine) (q : k (.dat (eL e (List.replicate n.toNat xs).flatten)) L) : OD C (rMulY K) (.dat (eL e xs)) (.dat (.int n)) L k := od_mulY_lst (by rw [List.length_map]; exact h) (by rw [rep_map]; exact q)
theorem od_mulT {xs : List α} {n : Int} (h : xs ≠ [] ∧ 2 ≤ n ∧ n ≤ 1000 ∧ xs.length ≤ 1000) (q : k (.dat (eT e (List.replicate n.toNat xs).flatten)) L) (hK : C.K = K := by rfl) : OD C (rMulY K) (.dat (eT e xs)) (.dat (.int n)) L k :=
  od_mul_tup ⟨fun z => h.1 (List.map_eq_nil_iff.mp z), h.2.1, h.2.2.1, by rw [List.length_map]; exact h.2.2.2⟩ (by rw [rep_map]; exact q) hK
theorem cd_lenL {xs : List α} (q : k (.dat (.int (xs.length : Int))) L) : CD C (rLenZ K) [.dat (eL e xs)] L k := cd_len_lst (by rw [List.length_map]; exact q)
theorem cd_lenT {xs : List α} (q : k (.dat (.int (xs.length : Int))) L) (hK : C.K = K := by rfl) : CD C (rLenZ K) [.dat (eT e xs)] L k := cd_len_tup (by rw [List.length_map]; exact q) hK
theorem cd_lenO {a : Addr} {xs : List α} (m : (a, .lst (xs.map e)) ∈ L) (q : k (.dat (.int (xs.length : Int))) L) : CD C (rLenZ K) [.own a] L k := cd_len_own m (by rw [List.length_map]; exact q)
/-- len of a value of unknown kind -/
def lenD : PyData → Int
  | .list ds => ds.length
  | .tuple ds => ds.length
  | .str z => z.length
  | _ => 0
def hasLen : PyData → Bool
  | .list _ => true
  | .tuple _ => true
  | .str z => decide (z.length ≤ sizeLine)
  | _ => false
theorem cd_lenD {d : PyData} (h : hasLen d = true) (q : k (.dat (.int (lenD d))) L) (hK : C.K = K := by rfl) : CD C (rLenZ K) [.dat d] L k := by
  cases d with
  | list ds => exact cd_len_lst q
  | tuple ds => exact cd_len_tup q hK
  | str z => exact cd_len_str (of_decide_eq_true h) q
  | _ => cases h
/-- what is walked over of it -/
def itemsD : PyData → List PyData
  | .list ds => ds
  | .tuple ds => ds
  | .str x => x.cps.toList.map sgn
  | _ => []
def isSeqD : PyData → Bool
  | .list _ => true
  | .tuple _ => true
  | .str _ => true
  | _ => false
theorem seqD {d : PyData} (h : isSeqD d = true) : SeqOf (.dat d) (itemsD d) := by
  cases d with
  | list ds => exact .lst ds
  | tuple ds => exact .tup ds
  | str z => exact .str z
  | _ => cases h
theorem seqL {xs : List α} : SeqOf (.dat (eL e xs)) (xs.map e) := .lst _
theorem seqT {xs : List α} : SeqOf (.dat (eT e xs)) (xs.map e) := .tup _
def sgns (z : Str) : List Str := z.cps.toList.map fun c => ⟨#[c]⟩
theorem seqS {z : Str} : SeqOf (.dat (.str z)) ((sgns z).map eS) := by
  have q := SeqOf.str z
  unfold sgns
  rw [List.map_map]
  exact q
theorem map_idD (ds : List PyData) : ds = ds.map eD := (List.map_id ds).symm
/-! all, any, sum, max, min -/
theorem cd_allE {xs : List α} {f : α → Bool} (q : k (.dat (.bool (xs.all f))) L) : CD C (rAll K) [.dat (eL eB (xs.map f))] L k := cd_all (by rw [List.all_map]; exact q)
theorem cd_anyE {xs : List α} {f : α → Bool} (q : k (.dat (.bool (xs.any f))) L) : CD C (rAny K) [.dat (eL eB (xs.map f))] L k := cd_any (by rw [List.any_map]; exact q)
def rMinZ (K : PySem.W.Frag) : List V → Hp → VK → Prop := fun vs H Q => rMin K vs H Q ∨ ∃ i j, vs = [.int i, .int j] ∧ Q (.int (if j < i then j else i)) H
theorem call_minZ {X : Cx} (hc : X.calm = true) : CallR X (.builtin "min") (rMinZ X.K) := (cr_min hc).or (call_min2 hc)
def minI : List Int → Int
  | [] => 0
  | a :: r => r.foldl min a
theorem foldl_min (r : List Int) : ∀ a : Int, (r.foldl min a = a ∨ r.foldl min a ∈ r) ∧ r.foldl min a ≤ a ∧ ∀ y ∈ r, r.foldl min a ≤ y := by
  induction r with
  | nil => exact fun a => ⟨.inl rfl, Int.le_refl a, fun y h => nomatch h⟩
  | cons b t ih =>
    intro a
    obtain ⟨h1, h2, h3⟩ := ih (min a b)
    rw [List.foldl_cons]
    refine ⟨?_, by omega, fun y hy => ?_⟩
    · rcases h1 with h1 | h1
      · by_cases hab : a ≤ b
        · rw [Int.min_eq_left hab] at h1 ⊢
          exact .inl h1
        · rw [Int.min_eq_right (by omega)] at h1 ⊢
          exact .inr (by rw [h1]; exact List.mem_cons_self)
      · exact .inr (List.mem_cons_of_mem _ h1)
    · rcases List.mem_cons.mp hy with e | e
      · subst e
        omega
      · exact h3 y e
theorem minI_mem {ns : List Int} (h : 0 < ns.length) : minI ns ∈ ns := by
  cases ns with
  | nil => simp at h
  | cons a r =>
    rcases (foldl_min r a).1 with e | e
    · show r.foldl min a ∈ a :: r
      rw [e]
      exact List.mem_cons_self
    · exact List.mem_cons_of_mem _ e
theorem minI_le {ns : List Int} {y : Int} (h : y ∈ ns) : minI ns ≤ y := by
  cases ns with
  | nil => cases h
  | cons a r =>
    rcases List.mem_cons.mp h with e | e
    · subst e
      exact (foldl_min r y).2.1
    · exact (foldl_min r a).2.2 y e
theorem cd_min_lst {ns : List Int} (h : 0 < ns.length) (q : k (.dat (.int (minI ns))) L) : CD C (rMinZ K) [.dat (.list (ns.map PyData.int))] L k := cd_or1 (cd_val (fun vs H l o => by
  obtain ⟨v, rfl, o1⟩ := rsAll_1 o
  cases o1 with
  | @lst p xs _ e ha =>
    have ex := ints_of ha
    subst ex
    refine ⟨.int (minI ns), .int _, fun Q f => ⟨p, ns, rfl, SqL.of (hid_sub _ _ e), h, fun m h1 h2 => ?_⟩⟩
    have em : m = minI ns := Int.le_antisymm (h2 _ (minI_mem h)) (minI_le h1)
    rw [em]
    exact f) q)
theorem cd_min2 {i j : Int} (q : k (.dat (.int (if j < i then j else i))) L) : CD C (rMinZ K) [.dat (.int i), .dat (.int j)] L k := cd_or2 (cd_val (fun vs H l o => by
  have e := rsAll_int2 o
  subst e
  exact ⟨.int _, .int _, fun Q f => ⟨i, j, rfl, f⟩⟩) q)
/-! tuple, list, sorted -/
theorem cd_tupL {xs : List α} (q : k (.dat (eT e xs)) L) : CD C (rTupZ K) [.dat (eL e xs)] L k := cd_tup_lst q
theorem cd_tupO {a : Addr} {xs : List α} (m : (a, .lst (xs.map e)) ∈ L) (q : k (.dat (eT e xs)) L) : CD C (rTupZ K) [.own a] L k := cd_tup_own m q
/-- ascending -/
def sortI (xs : List Int) : List Int := xs.mergeSort (fun a b => decide (a ≤ b))
theorem sortI_perm (xs : List Int) : (sortI xs).Perm xs := List.mergeSort_perm _ _
theorem sortI_asc (xs : List Int) : (sortI xs).Pairwise (· ≤ ·) := by
  have h := List.pairwise_mergeSort (le := fun a b : Int => decide (a ≤ b)) (fun a b c h1 h2 => decide_eq_true (Int.le_trans (of_decide_eq_true h1) (of_decide_eq_true h2))) (fun a b => by
    rcases Int.le_total a b with h | h
    · simp [h]
    · simp [h]) xs
  exact h.imp fun h => of_decide_eq_true h
theorem cd_sortI {ns : List Int} (q : k (.dat (.list ((sortI ns).map PyData.int))) L) : CD C (rSortedI K) [.dat (.list (ns.map PyData.int))] L k := cd_sortedI (sortI_perm ns) (sortI_asc ns) q
/-! equal, in -/
abbrev okEq (d : PyData) : Prop := SeqAt.shaped d = true ∧ flatD d = true
theorem od_eqD {d e : PyData} (h : okEq d) (h2 : okEq e) (q : k (.dat (.bool (PyData.eqv d e))) L) (hK : C.K = K := by rfl) : OD C (rEqZ K) (.dat d) (.dat e) L k := od_eq_deep ⟨h.1, h2.1, h.2, h2.2⟩ q hK
theorem od_neD {d e : PyData} (h : okEq d) (h2 : okEq e) (q : k (.dat (.bool (!PyData.eqv d e))) L) (hK : C.K = K := by rfl) : OD C (rNeZ K) (.dat d) (.dat e) L k := od_ne_deep ⟨h.1, h2.1, h.2, h2.2⟩ q hK
theorem isNone_eO {e : α → PyData} (h : ∀ a, isNoneD (e a) = false) (o : Option α) : isNoneD (eO e o) = o.isNone := by
  cases o with
  | none => rfl
  | some a => exact h a
theorem od_inL {i : Int} {ns : List Int} (q : k (.dat (.bool (decide (i ∈ ns)))) L) : OD C (rInZ K) (.dat (.int i)) (.dat (.list (ns.map PyData.int))) L k := by
  refine od_or2 (od_val (fun v w H l a b => ?_) q)
  cases a
  cases b with
  | @lst p xs _ e ha =>
    have ex := ints_of ha
    subst ex
    exact ⟨.bl _, .bl _, fun Q f => ⟨p, _, rfl, .inl (SqL.of (hid_sub _ _ e)), rfl, flat_ints ns, by rw [if_neg (by decide), inV_ints]; exact f⟩⟩
theorem od_notInL {i : Int} {ns : List Int} (q : k (.dat (.bool (!decide (i ∈ ns)))) L) : OD C (rNotInZ K) (.dat (.int i)) (.dat (.list (ns.map PyData.int))) L k := by
  refine od_or2 (od_val (fun v w H l a b => ?_) q)
  cases a
  cases b with
  | @lst p xs _ e ha =>
    have ex := ints_of ha
    subst ex
    exact ⟨.bl _, .bl _, fun Q f => ⟨p, _, rfl, .inl (SqL.of (hid_sub _ _ e)), rfl, flat_ints ns, by rw [if_pos rfl, inV_ints]; exact f⟩⟩
end
abbrev pow2 (i j : Int) : Int := i ^ j.toNat
end Y

set_option Elab.async false
set_option linter.all false
set_option maxRecDepth 100000
set_option maxHeartbeats 2000000
namespace Y
open PySem PySem.Spec PyProof.Rows L2 Z
section
variable {σ l ρ α β γ : Type} {F : Fx ρ} {N : NR σ} {M : NR l} {t u : TS} {ε ε' : Ev} {L L1 L2 : Led} {te ti to ta tb : TE} {tA : TA} {o : Ctl σ l ρ} {K : PySem.W.Frag} {C : Cz}
theorem nin_of {M1 M2 : Led} {p : Addr} (h : p ∉ M1.ks) (e : M2.ks = M1.ks) : p ∉ M2.ks := by rw [e]; exact h
theorem ne_of_nin {M1 : Led} {p q : Addr} (h : q ∉ M1.ks) (m : p ∈ M1.ks) : p ≠ q := fun z => h (z ▸ m)
theorem hv_parE {i j : Nat} {a : α} {b : β} {ea : α → PyData} {eb : β → PyData} {q : α × β → Ctl σ l ρ} (h : EA F.C tA ε L [.dat (ea a), .dat (eb b)] L1) (h2 : ∀ x y, HV F N M u ((ε.set i (some (.dat (ea x)))).set j (some (.dat (eb y)))) L1 (q (x, y))) :
    HV F N M (tSeq (tPar i j tA) u) ε L (lt (a, b) q) := hv_par h (h2 a b)
theorem hv_par3E {i j k : Nat} {a : α} {b : β} {c : γ} {ea : α → PyData} {eb : β → PyData} {ec : γ → PyData} {q : α × β × γ → Ctl σ l ρ} (h : EA F.C tA ε L [.dat (ea a), .dat (eb b), .dat (ec c)] L1)
    (h2 : ∀ x y z, HV F N M u (((ε.set i (some (.dat (ea x)))).set j (some (.dat (eb y)))).set k (some (.dat (ec z)))) L1 (q (x, y, z))) : HV F N M (tSeq (tPar3 i j k tA) u) ε L (lt (a, b, c) q) := hv_par3 h (h2 a b c)
/-! written lists -/
theorem hv_appE {i : Nat} {p : Addr} {xs : List α} {v : α} {e : α → PyData} {q : List α → Ctl σ l ρ} {Lf : List α → Led} (hx : ε[i]? = some (some (.own p))) (h : EV F.C te ε L (.dat (e v)) L) (hm : (p, .lst (xs.map e)) ∈ L) (hz : xs.length < sizeLine)
    (hL : ∀ l' : List α, up L p (.lst (l'.map e)) = Lf l') (h2 : ∀ x, HV F N M u ε (Lf x) (q x)) (hK : F.C.K = K := by rfl) : HV F N M (tSeq (tDrop (tBM K "list" rAppend (tVar i) (tCons te tNil))) u) ε L (lt (xs ++ [v]) q) :=
  hv_drop (ev_append hx hm h hm (by rw [List.length_map]; exact hz) hK) (by
    have e2 : xs.map e ++ [e v] = (xs ++ [v]).map e := by rw [List.map_append]; rfl
    rw [e2, hL]
    exact h2 _)
theorem hv_extE {i : Nat} {p : Addr} {xs ys : List α} {e : α → PyData} {q : List α → Ctl σ l ρ} {Lf : List α → Led} (hx : ε[i]? = some (some (.own p))) (h : EV F.C te ε L (.dat (eL e ys)) L) (hm : (p, .lst (xs.map e)) ∈ L) (hz : xs.length + ys.length ≤ sizeLine)
    (hL : ∀ l' : List α, up L p (.lst (l'.map e)) = Lf l') (h2 : ∀ x, HV F N M u ε (Lf x) (q x)) (hK : F.C.K = K := by rfl) : HV F N M (tSeq (tDrop (tBM K "list" rExtend (tVar i) (tCons te tNil))) u) ε L (lt (xs ++ ys) q) :=
  hv_drop (ev_extend hx hm h hm (by rw [List.length_map, List.length_map]; exact hz) hK) (by
    rw [← List.map_append, hL]
    exact h2 _)
theorem hv_revE {i : Nat} {p : Addr} {xs : List α} {e : α → PyData} {q : List α → Ctl σ l ρ} {Lf : List α → Led} (hx : ε[i]? = some (some (.own p))) (hm : (p, .lst (xs.map e)) ∈ L)
    (hL : ∀ l' : List α, up L p (.lst (l'.map e)) = Lf l') (h2 : ∀ x, HV F N M u ε (Lf x) (q x)) (hK : F.C.K = K := by rfl) : HV F N M (tSeq (tDrop (tBM0 K "list" rReverse (tVar i))) u) ε L (lt xs.reverse q) :=
  hv_drop (ev_reverse hx hm hK) (by
    rw [← List.map_reverse, hL]
    exact h2 _)
theorem last_map {xs : List α} {e : α → PyData} (h : xs ≠ []) : (xs.map e)[(xs.map e).length - 1]? = some (e (xs.getLast h)) := by
  rw [List.length_map, List.getElem?_map, ← List.getLast?_eq_getElem?, List.getLast?_eq_some_getLast h]
  rfl
theorem hv_popE {i : Nat} {p : Addr} {xs : List α} {e : α → PyData} {q : List α → Ctl σ l ρ} {Lf : List α → Led} (hx : ε[i]? = some (some (.own p))) (hm : (p, .lst (xs.map e)) ∈ L) (hz : xs ≠ [])
    (hL : ∀ l' : List α, up L p (.lst (l'.map e)) = Lf l') (h2 : ∀ x, HV F N M u ε (Lf x) (q x)) (hK : F.C.K = K := by rfl) : HV F N M (tSeq (tDrop (tBM0 K "list" rPop (tVar i))) u) ε L (lt xs.dropLast q) :=
  hv_drop (ev_pop hx hm (last_map hz) hK) (by
    rw [← List.map_dropLast, hL]
    exact h2 _)
/-- x = xs.pop() -/
theorem hv_popS {i j : Nat} {p : Addr} [Inhabited α] {xs : List α} {e : α → PyData} {q : α × List α → Ctl σ l ρ} {Lf : List α → Led} (hx : ε[i]? = some (some (.own p))) (hm : (p, .lst (xs.map e)) ∈ L) (hz : xs ≠ [])
    (hL : ∀ l' : List α, up L p (.lst (l'.map e)) = Lf l') (h2 : ∀ y x, HV F N M u (ε.set j (some (.dat (e y)))) (Lf x) (q (y, x))) (hK : F.C.K = K := by rfl) : HV F N M (tSeq (tAsg (tBM0 K "list" rPop (tVar i)) (gName j)) u) ε L (lt (xs.getLast?.getD default, xs.dropLast) q) :=
  hv_asg (ev_pop hx hm (last_map hz) hK) (by
    rw [← List.map_dropLast, hL]
    have := h2 (xs.getLast?.getD default) xs.dropLast
    rw [List.getLast?_eq_some_getLast hz] at this ⊢
    exact this)
def setI (xs : List α) (i : Int) (v : α) : List α := match ixN xs.length i with
  | some j => xs.set j v
  | none => xs
theorem hv_setLE {p : Addr} {xs : List α} {v : α} {i : Int} {e : α → PyData} {q : List α → Ctl σ l ρ} {Lf : List α → Led} (h : EV F.C te ε L (.dat (e v)) L) (ho : EV F.C to ε L (.own p) L) (hi : EV F.C ti ε L (.dat (.int i)) L) (hm : (p, .lst (xs.map e)) ∈ L) (hz : okIx xs i)
    (hL : ∀ l' : List α, up L p (.lst (l'.map e)) = Lf l') (h2 : ∀ x, HV F N M u ε (Lf x) (q x)) : HV F N M (tSeq (tAsg te (gSub to ti rSetL)) u) ε L (lt (setI xs i v) q) := by
  have hz : (atI xs i).isSome = true := hz
  unfold atI at hz
  cases hj : ixN xs.length i with
  | none =>
    rw [hj] at hz
    cases hz
  | some j =>
    have es : setI xs i v = xs.set j v := by
      unfold setI
      rw [hj]
    rw [es]
    exact hv_setL (e := e) (v := xs.set j v) (Lf := Lf) h ho hi hm (by rw [List.length_map]; exact hj) (by rw [← List.map_set, hL]) h2
theorem ew_addL {xs ys : List α} {e : α → PyData} (h1 : EV C ta ε L (.dat (eL e xs)) L1) (h2 : EV C tb ε L1 (.dat (eL e ys)) L2) (h : xs.length + ys.length ≤ sizeLine) : EW C (tOp (rAddZ K) ta tb) ε L ((xs ++ ys).map e) L2 := fun k q =>
  cp_op (h1 _ (h2 _ (od_addW h q)))
/-- a value of unknown kind, known by now -/
theorem hv_narrow (y : Ty α) (ef : PyData → Ev) {d : PyData} {q : α → Ctl σ l ρ} (h : y.p d = true) (h2 : ∀ x, HV F N M t (ef (y.e x)) L (q x)) : HV F N M t (ef d) L (lt (y.f d) q) := by
  have e := y.ok d h
  have := h2 (y.f d)
  rw [← e] at this
  exact this
/-! calls of defs that may raise -/
theorem hv_callD {d : DSp} {rs : List Rs} {r : Res α} {enc : α → PyData} {q : α → Ctl σ l ρ} (h : EA F.C tA ε L rs L) (hd : ∀ (k : Rs → Led → Prop) (x : Addr → Led → Prop), AccR F.ca r (fun v => k (.dat (enc v)) L) (fun c => x c L) → d rs L k x) (hX : F.X ε L) (h2 : ∀ v, HV F N M u ε L (q v)) :
    HV F N M (tSeq (tDrop (tCallS (lift F.C.K d) (WE F.C.W) tA)) u) ε L (callC r q) := fun P A => hs_seq (hs_drop (cp_callS (h _ (hd _ _ (by
  cases r with
  | bad => exact A.elim
  | ok v => exact h2 v P A
  | ex c => exact A ε L hX)))))
theorem hv_callS {i : Nat} {d : DSp} {rs : List Rs} {r : Res α} {enc : α → PyData} {q : α → Ctl σ l ρ} (h : EA F.C tA ε L rs L) (hd : ∀ (k : Rs → Led → Prop) (x : Addr → Led → Prop), AccR F.ca r (fun v => k (.dat (enc v)) L) (fun c => x c L) → d rs L k x) (hX : F.X ε L) (h2 : ∀ v, HV F N M u (ε.set i (some (.dat (enc v)))) L (q v)) :
    HV F N M (tSeq (tAsg (tCallS (lift F.C.K d) (WE F.C.W) tA) (gName i)) u) ε L (callC r q) := fun P A => hs_seq (hs_asg (cp_callS (h _ (hd _ _ (by
  cases r with
  | bad => exact A.elim
  | ok v => exact h2 v P A
  | ex c => exact A ε L hX)))))
theorem hv_retC {d : DSp} {rs : List Rs} {r : Res ρ} {enc : ρ → PyData} (h : EA F.C tA ε L rs L) (hd : ∀ (k : Rs → Led → Prop) (x : Addr → Led → Prop), AccR F.ca r (fun v => k (.dat (enc v)) L) (fun c => x c L) → d rs L k x) (hX : F.X ε L) (hr : ∀ v, F.R v (.dat (enc v)) L) :
    HV F N M (tRet (tCallS (lift F.C.K d) (WE F.C.W) tA)) ε L (callC r .rt) := fun P A => hs_ret (cp_callS (h _ (hd _ _ (by
  cases r with
  | bad => exact A.elim
  | ok v => exact A _ L (hr v)
  | ex c => exact A ε L hX))))
theorem accR0 {α : Type} {ca : Nat → Addr} {o : Res α} {k : α → Prop} {x : Addr → Prop} (h : AccR ca o k x) (e : ∀ c, o ≠ .ex c) : AccR ca o k fun _ => False := by
  cases o with
  | bad => exact h
  | ok r => exact h
  | ex c => exact absurd rfl (e c)
end
end Y

set_option Elab.async false
set_option linter.all false
set_option maxRecDepth 100000
set_option maxHeartbeats 2000000
/-! in, over data of any depth -/
namespace Y
open PySem PySem.Spec PyProof.Rows L2 Z
/-- whether some item is equal -/
def inD (d : PyData) (ds : List PyData) : Bool := ds.any fun e => PyData.eqv e d
def rInD (K : PySem.W.Frag) (neg : Bool) : R2 := fun x y H Q => ∃ (p : Addr) (d : PyData) (ds : List PyData) (xs : List V), y = .ref p ∧ (SqL K H p xs ∨ SqT K H p xs) ∧ Dp K H x d ∧ DpAll K H xs ds ∧ SeqAt.shaped d = true ∧ ds.all SeqAt.shaped = true ∧ Q (.bl (if neg then !inD d ds else inD d ds)) H
section
variable {X : Cx}
open Classical in
theorem in_items {A : Around} {s : Shared} {v : Value} {d : PyData} {bs : List Addr} (rd : Reads s.heap v d bs) (sd : SeqAt.shaped d = true) (hA : A.units + 64 < cLine) : ∀ (us : List Value) (ds : List PyData) (as : List Addr), ReadsAll s.heap us ds as → ds.all SeqAt.shaped = true →
    ∃ e : Value → Bool, (∀ u ∈ us, SeqAt.EqAt A s u v (e u)) ∧ us.any e = inD d ds := by
  intro us ds as r f
  let e : Value → Bool := fun u => if h : ∃ d', ∃ as, SeqAt.shaped d' = true ∧ Reads s.heap u d' as then PyData.eqv (Classical.choose h) d else false
  have he : ∀ u d' as, SeqAt.shaped d' = true → Reads s.heap u d' as → e u = PyData.eqv d' d := fun u d' as sh ru => by
    have h : ∃ d', ∃ as, SeqAt.shaped d' = true ∧ Reads s.heap u d' as := ⟨d', as, sh, ru⟩
    have h1 : e u = PyData.eqv (Classical.choose h) d := dif_pos h
    obtain ⟨as2, s2, r2⟩ := Classical.choose_spec h
    rw [h1, (Reads.unique r2 _ _ ru).1]
  refine ⟨e, ?_, ?_⟩
  · clear he
    induction us generalizing ds as with
    | nil => intro u hu; cases hu
    | cons a t ih =>
      cases r with
      | @cons _ _ d0 ds0 as0 bs0 r1 r2 =>
        rw [List.all_cons, Bool.and_eq_true] at f
        intro u hu
        rcases List.mem_cons.mp hu with z | z
        · subst z
          have h : ∃ d', ∃ as, SeqAt.shaped d' = true ∧ Reads s.heap u d' as := ⟨_, _, f.1, r1⟩
          have h1 : e u = PyData.eqv (Classical.choose h) d := dif_pos h
          obtain ⟨as2, s2, q2⟩ := Classical.choose_spec h
          rw [h1]
          exact SeqAt.eqAt_reads _ _ _ _ _ _ _ _ q2 rd (SeqAt.canLay_of_shaped s2) (SeqAt.canLay_of_shaped sd) (SeqAt.room_of_shaped s2 hA)
        · exact ih _ _ r2 f.2 u z
  · induction us generalizing ds as with
    | nil =>
      cases r
      rfl
    | cons a t ih =>
      cases r with
      | @cons _ _ d0 ds0 as0 bs0 r1 r2 =>
        rw [List.all_cons, Bool.and_eq_true] at f
        show (e a || t.any e) = (PyData.eqv d0 d || inD d ds0)
        rw [he a d0 _ f.1 r1, ih _ _ r2 f.2]
theorem op_inD (hu : X.A.in1.units + 64 < cLine) : OpR X (compareOp .In) (rInD X.K false) := by
  intro pins s σ H x y v u Q I rx ry h
  obtain ⟨p, d, ds, xs, rfl, hq, hd, hs, sd, sds, q⟩ := h
  cases ry
  obtain ⟨bs, rd⟩ := Dp.reads I d x v hd rx
  rcases hq with hq | hq
  · obtain ⟨its, r, pl, hz⟩ := I.list hq
    obtain ⟨as, rs⟩ := Dp.readsAll I ds xs its hs r
    obtain ⟨e, h1, h2⟩ := in_items (A := X.A.in1) (s := s) rd sd hu its ds as rs sds
    refine SeqAt.in_listAt e pl.isList (fun w hw => h1 w (by simpa using hw)) ⟨.bl _, H, I, rfl, ?_⟩
    rw [show its.toArray.any e = its.any e by simp, h2]
    exact q
  · obtain ⟨its, r, pl, hz⟩ := I.tuple hq
    obtain ⟨as, rs⟩ := Dp.readsAll I ds xs its hs r
    obtain ⟨e, h1, h2⟩ := in_items (A := X.A.in1) (s := s) rd sd hu its ds as rs sds
    refine SeqAt.in_tupleAt e pl (fun w hw => h1 w (by simpa using hw)) ⟨.bl _, H, I, rfl, ?_⟩
    rw [show its.toArray.any e = its.any e by simp, h2]
    exact q
theorem op_notInD (hu : X.A.in1.units + 64 < cLine) : OpR X (compareOp .NotIn) (rInD X.K true) := by
  intro pins s σ H x y v u Q I rx ry h
  obtain ⟨p, d, ds, xs, rfl, hq, hd, hs, sd, sds, q⟩ := h
  cases ry
  obtain ⟨bs, rd⟩ := Dp.reads I d x v hd rx
  rcases hq with hq | hq
  · obtain ⟨its, r, pl, hz⟩ := I.list hq
    obtain ⟨as, rs⟩ := Dp.readsAll I ds xs its hs r
    obtain ⟨e, h1, h2⟩ := in_items (A := X.A.in1) (s := s) rd sd hu its ds as rs sds
    refine SeqAt.notIn_listAt e pl.isList (fun w hw => h1 w (by simpa using hw)) ⟨.bl _, H, I, rfl, ?_⟩
    rw [show its.toArray.any e = its.any e by simp, h2]
    exact q
  · obtain ⟨its, r, pl, hz⟩ := I.tuple hq
    obtain ⟨as, rs⟩ := Dp.readsAll I ds xs its hs r
    obtain ⟨e, h1, h2⟩ := in_items (A := X.A.in1) (s := s) rd sd hu its ds as rs sds
    refine SeqAt.notIn_tupleAt e pl (fun w hw => h1 w (by simpa using hw)) ⟨.bl _, H, I, rfl, ?_⟩
    rw [show its.toArray.any e = its.any e by simp, h2]
    exact q
end
def rInY (K : PySem.W.Frag) : R2 := fun x y H Q => rInZ K x y H Q ∨ rInD K false x y H Q
theorem op_inY {X : Cx} (hu : X.A.in1.units + 64 < cLine) : OpR X (compareOp .In) (rInY X.K) := op_inZ.or (op_inD hu)
def rNotInY (K : PySem.W.Frag) : R2 := fun x y H Q => rNotInZ K x y H Q ∨ rInD K true x y H Q
theorem op_notInY {X : Cx} (hu : X.A.in1.units + 64 < cLine) : OpR X (compareOp .NotIn) (rNotInY X.K) := op_notInZ.or (op_notInD hu)
section
variable {C : Cz} {L : Led} {k : Rs → Led → Prop} {K : PySem.W.Frag} {α : Type} {e : α → PyData}
theorem rpAll_dp' {H : Hp} : ∀ {vs : List V} {ds : List PyData}, RpAll K H vs ds → ds.all flatD = true → DpAll K H vs ds
  | _, _, .nil, _ => .nil
  | _, _, .cons h t, f => by
    rw [List.all_cons, Bool.and_eq_true] at f
    exact .cons (rp_dp h f.1) (rpAll_dp' t f.2)
/-- each item is plain -/
abbrev okEqs (e : α → PyData) (xs : List α) : Prop := ∀ x ∈ xs, okEq (e x)
theorem okEqs_all {xs : List α} (h : okEqs e xs) : (xs.map e).all SeqAt.shaped = true ∧ (xs.map e).all flatD = true := by
  rw [List.all_map, List.all_map, List.all_eq_true, List.all_eq_true]
  exact ⟨fun x hx => (h x hx).1, fun x hx => (h x hx).2⟩
theorem od_inDL {d : PyData} {xs : List α} (h : okEq d) (h2 : okEqs e xs) (q : k (.dat (.bool (inD d (xs.map e)))) L) (hK : C.K = K := by rfl) : OD C (rInY K) (.dat d) (.dat (eL e xs)) L k := by
  subst hK
  refine od_or2 (od_val (fun v w H l a b => ?_) q)
  cases b with
  | @lst p ys _ e2 ha => exact ⟨.bl _, .bl _, fun Q f => ⟨p, d, _, ys, rfl, .inl (SqL.of (hid_sub _ _ e2)), rp_dp (rp_mono hid_sub a) h.2, rpAll_dp' (rpAll_mono hid_sub ha) (okEqs_all h2).2, h.1, (okEqs_all h2).1, f⟩⟩
theorem od_inDT {d : PyData} {xs : List α} (h : okEq d) (h2 : okEqs e xs) (q : k (.dat (.bool (inD d (xs.map e)))) L) (hK : C.K = K := by rfl) : OD C (rInY K) (.dat d) (.dat (eT e xs)) L k := by
  subst hK
  refine od_or2 (od_val (fun v w H l a b => ?_) q)
  cases b with
  | @tup p ys _ e2 ha => exact ⟨.bl _, .bl _, fun Q f => ⟨p, d, _, ys, rfl, .inr (ext_t hid_sub e2), rp_dp (rp_mono hid_sub a) h.2, rpAll_dp' (rpAll_mono hid_sub ha) (okEqs_all h2).2, h.1, (okEqs_all h2).1, f⟩⟩
theorem od_notInDL {d : PyData} {xs : List α} (h : okEq d) (h2 : okEqs e xs) (q : k (.dat (.bool (!inD d (xs.map e)))) L) (hK : C.K = K := by rfl) : OD C (rNotInY K) (.dat d) (.dat (eL e xs)) L k := by
  subst hK
  refine od_or2 (od_val (fun v w H l a b => ?_) q)
  cases b with
  | @lst p ys _ e2 ha => exact ⟨.bl _, .bl _, fun Q f => ⟨p, d, _, ys, rfl, .inl (SqL.of (hid_sub _ _ e2)), rp_dp (rp_mono hid_sub a) h.2, rpAll_dp' (rpAll_mono hid_sub ha) (okEqs_all h2).2, h.1, (okEqs_all h2).1, f⟩⟩
theorem od_notInDT {d : PyData} {xs : List α} (h : okEq d) (h2 : okEqs e xs) (q : k (.dat (.bool (!inD d (xs.map e)))) L) (hK : C.K = K := by rfl) : OD C (rNotInY K) (.dat d) (.dat (eT e xs)) L k := by
  subst hK
  refine od_or2 (od_val (fun v w H l a b => ?_) q)
  cases b with
  | @tup p ys _ e2 ha => exact ⟨.bl _, .bl _, fun Q f => ⟨p, d, _, ys, rfl, .inr (ext_t hid_sub e2), rp_dp (rp_mono hid_sub a) h.2, rpAll_dp' (rpAll_mono hid_sub ha) (okEqs_all h2).2, h.1, (okEqs_all h2).1, f⟩⟩
end
/-! ### plain data of a type: equality decided -/
structure PlE {α : Type} (e : α → PyData) (n : Nat) : Prop where
  lay : ∀ a, (e a).canLay0 = true
  dp : ∀ a, (e a).depth ≤ n
  fl : ∀ a, flatD (e a) = true
  inj : ∀ a b, e a = e b → a = b
  eqv : ∀ a b, PyData.eqv (e a) (e b) = true → a = b
  rfl' : ∀ a, PyData.eqv (e a) (e a) = true
def eqB {α : Type} [DecidableEq α] (a b : α) : Bool := decide (a = b)
def inB {α : Type} [DecidableEq α] (a : α) (xs : List α) : Bool := decide (a ∈ xs)
theorem eqB_iff {α : Type} [DecidableEq α] {a b : α} : eqB a b = true ↔ a = b := decide_eq_true_iff
theorem inB_iff {α : Type} [DecidableEq α] {a : α} {xs : List α} : inB a xs = true ↔ a ∈ xs := decide_eq_true_iff
theorem PlE.ok {α : Type} {e : α → PyData} {n : Nat} (h : PlE e n) (hn : n ≤ 64) (a : α) : okEq (e a) := ⟨by
  unfold SeqAt.shaped
  rw [h.lay, Bool.true_and]
  exact decide_eq_true (Nat.le_trans (h.dp a) hn), h.fl a⟩
theorem PlE.oks {α : Type} {e : α → PyData} {n : Nat} (h : PlE e n) (hn : n ≤ 64) (xs : List α) : okEqs e xs := fun x _ => h.ok hn x
theorem PlE.dec {α : Type} [DecidableEq α] {e : α → PyData} {n : Nat} (h : PlE e n) (a b : α) : PyData.eqv (e a) (e b) = eqB a b := by
  unfold eqB
  by_cases z : a = b
  · subst z
    rw [h.rfl', decide_eq_true rfl]
  · rw [decide_eq_false z]
    cases q : PyData.eqv (e a) (e b) with
    | false => rfl
    | true => exact absurd (h.eqv a b q) z
theorem PlE.mem {α : Type} [DecidableEq α] {e : α → PyData} {n : Nat} (h : PlE e n) (a : α) (xs : List α) : inD (e a) (xs.map e) = inB a xs := by
  unfold inD inB
  rw [List.any_map]
  induction xs with
  | nil => simp
  | cons b r ih =>
    rw [List.any_cons, ih]
    show (PyData.eqv (e b) (e a) || decide (a ∈ r)) = _
    rw [h.dec, eqB]
    by_cases z : b = a
    · subst z
      simp
    · rw [decide_eq_false z, Bool.false_or]
      have : (a ∈ b :: r) ↔ a ∈ r := by
        rw [List.mem_cons]
        exact ⟨fun h => h.resolve_left fun q => z q.symm, .inr⟩
      simp [this]
theorem plI : PlE eI 1 := ⟨fun a => rfl, fun a => by show PyData.depth (.int a) ≤ 1; simp [PyData.depth], fun _ => rfl, fun a b h => PyData.int.inj h, fun a b h => by
  have h : (a == b) = true := h
  exact beq_iff_eq.mp h, fun a => by show (a == a) = true; exact beq_self_eq_true a⟩
theorem plB : PlE eB 1 := ⟨fun a => rfl, fun a => by show PyData.depth (.bool a) ≤ 1; simp [PyData.depth], fun _ => rfl, fun a b h => PyData.bool.inj h, fun a b h => by
  have h : (a == b) = true := h
  exact beq_iff_eq.mp h, fun a => by show (a == a) = true; exact beq_self_eq_true a⟩
section
variable {α β : Type} {e : α → PyData} {n : Nat}
theorem lay_all (h : PlE e n) : ∀ xs : List α, PyData.canLayAll0 (xs.map e) = true
  | [] => rfl
  | a :: r => by
    show (PyData.canLay0 (e a) && PyData.canLayAll0 (r.map e)) = true
    rw [h.lay, lay_all h r]
    rfl
theorem flat_all (h : PlE e n) : ∀ xs : List α, flatAll (xs.map e) = true
  | [] => rfl
  | a :: r => by
    show (flatD (e a) && flatAll (r.map e)) = true
    rw [h.fl, flat_all h r]
    rfl
theorem eqv_all (h : PlE e n) : ∀ xs ys : List α, PyData.eqvAll (xs.map e) (ys.map e) = true → xs = ys
  | [], [], _ => rfl
  | [], _ :: _, q => by cases q
  | _ :: _, [], q => by cases q
  | a :: r, b :: t, q => by
    have q : (PyData.eqv (e a) (e b) && PyData.eqvAll (r.map e) (t.map e)) = true := q
    rw [Bool.and_eq_true] at q
    rw [h.eqv a b q.1, eqv_all h r t q.2]
theorem eqv_rfl (h : PlE e n) : ∀ xs : List α, PyData.eqvAll (xs.map e) (xs.map e) = true
  | [] => rfl
  | a :: r => by
    show (PyData.eqv (e a) (e a) && PyData.eqvAll (r.map e) (r.map e)) = true
    rw [h.rfl', eqv_rfl h r]
    rfl
theorem depth_all (h : PlE e n) : ∀ xs : List α, PyData.depthAll (xs.map e) ≤ n
  | [] => by simp [PyData.depthAll]
  | a :: r => by
    have h1 := h.dp a
    have h2 := depth_all h r
    simp only [List.map_cons, PyData.depthAll]
    omega
theorem map_inj (h : PlE e n) : ∀ xs ys : List α, xs.map e = ys.map e → xs = ys
  | [], [], _ => rfl
  | [], _ :: _, q => by cases q
  | _ :: _, [], q => by cases q
  | a :: r, b :: t, q => by
    rw [List.map_cons, List.map_cons] at q
    obtain ⟨q1, q2⟩ := List.cons.inj q
    rw [h.inj a b q1, map_inj h r t q2]
theorem plL (h : PlE e n) : PlE (eL e) (n + 1) := ⟨fun xs => lay_all h xs, fun xs => by
  have := depth_all h xs
  show PyData.depth (.list (xs.map e)) ≤ n + 1
  simp only [PyData.depth]
  omega, fun xs => flat_all h xs, fun xs ys q => map_inj h xs ys (PyData.list.inj q), fun xs ys q => eqv_all h xs ys q, fun xs => eqv_rfl h xs⟩
theorem plT (h : PlE e n) : PlE (eT e) (n + 1) := ⟨fun xs => lay_all h xs, fun xs => by
  have := depth_all h xs
  show PyData.depth (.tuple (xs.map e)) ≤ n + 1
  simp only [PyData.depth]
  omega, fun xs => flat_all h xs, fun xs ys q => map_inj h xs ys (PyData.tuple.inj q), fun xs ys q => eqv_all h xs ys q, fun xs => eqv_rfl h xs⟩
theorem plP2 {e2 : β → PyData} {m : Nat} (h : PlE e n) (h2 : PlE e2 m) : PlE (eP2 e e2) (n + m + 1) := ⟨fun a => by
  show (PyData.canLay0 (e a.1) && (PyData.canLay0 (e2 a.2) && true)) = true
  rw [h.lay, h2.lay]
  rfl, fun a => by
  have h3 := h.dp a.1
  have h4 := h2.dp a.2
  show PyData.depth (.tuple [e a.1, e2 a.2]) ≤ n + m + 1
  simp only [PyData.depth, PyData.depthAll]
  omega, fun a => by
  show (flatD (e a.1) && (flatD (e2 a.2) && true)) = true
  rw [h.fl, h2.fl]
  rfl, fun a b q => by
  have q := PyData.tuple.inj q
  obtain ⟨q1, q2⟩ := List.cons.inj q
  obtain ⟨q2, _⟩ := List.cons.inj q2
  exact Prod.ext (h.inj _ _ q1) (h2.inj _ _ q2), fun a b q => by
  have q : (PyData.eqv (e a.1) (e b.1) && (PyData.eqv (e2 a.2) (e2 b.2) && true)) = true := q
  rw [Bool.and_eq_true, Bool.and_eq_true] at q
  exact Prod.ext (h.eqv _ _ q.1) (h2.eqv _ _ q.2.1), fun a => by
  show (PyData.eqv (e a.1) (e a.1) && (PyData.eqv (e2 a.2) (e2 a.2) && true)) = true
  rw [h.rfl', h2.rfl']
  rfl⟩
end
end Y

set_option Elab.async false
set_option linter.all false
set_option maxRecDepth 100000
set_option maxHeartbeats 2000000
namespace Y
open PySem PySem.Spec PyProof.Rows L2 Z
instance : Inhabited PyData := ⟨.none⟩
/-! ### the draws -/
def tkV (ds : List Nat) (b : Int) : Int := match ds.getLast? with
  | none => 0
  | some n => (n : Int) % b
def tkD (ds : List Nat) : List Nat := ds.dropLast
theorem tkV_bd {ds : List Nat} {b : Int} (h : 0 < b) : 0 ≤ tkV ds b ∧ tkV ds b < b := by
  unfold tkV
  cases ds.getLast? with
  | none => exact ⟨Int.le_refl 0, h⟩
  | some n => exact ⟨Int.emod_nonneg _ (by omega), Int.emod_lt_of_pos _ h⟩
/-- one of some -/
def pkV {α : Type} [Inhabited α] (ds : List Nat) (xs : List α) : α := ix xs (tkV ds xs.length)
theorem pk_ok {α : Type} {ds : List Nat} {xs : List α} (h : xs ≠ []) : okIx xs (tkV ds xs.length) := by
  have hp : (0 : Int) < xs.length := by
    have := List.length_pos_iff.mpr h
    omega
  obtain ⟨h1, h2⟩ := tkV_bd (ds := ds) hp
  obtain ⟨d, e, _, _⟩ := atI_int h1 h2
  show (atI xs _).isSome = true
  rw [e]
  rfl
theorem pk_mem {α : Type} [Inhabited α] {ds : List Nat} {xs : List α} (h : xs ≠ []) : pkV ds xs ∈ xs := by
  have hp : (0 : Int) < xs.length := by
    have := List.length_pos_iff.mpr h
    omega
  obtain ⟨h1, h2⟩ := tkV_bd (ds := ds) hp
  obtain ⟨d, e, hm, _⟩ := atI_int h1 h2
  unfold pkV ix
  rw [e]
  exact hm
@[reducible] def d_take : DSp := fun rs L k _ => ∃ (ds : List Nat) (p : Addr) (b : Int), rs = [.own p, .dat (.int b)] ∧ (p, .lst (ds.map natD)) ∈ L ∧ 0 < b ∧ k (.dat (.int (tkV ds b))) (up L p (.lst ((tkD ds).map natD)))
@[reducible] def d_pick : DSp := fun rs L k _ => ∃ (ds : List Nat) (p : Addr) (s : PyData), (p, .lst (ds.map natD)) ∈ L ∧ rs = [.own p, .dat s] ∧ hasLen s = true ∧ isSeqD s = true ∧ itemsD s ≠ [] ∧ k (.dat (pkV ds (itemsD s))) (up L p (.lst ((tkD ds).map natD)))
@[reducible] def d_draws : DSp := fun rs L k _ => ∃ ns : List Int, rs = [.scr ns] ∧ ns.length ≤ 63 ∧ ∀ p (ds : List Nat), p ∉ L.ks → k (.own p) (plus L p (ds.map natD))
section
variable {σ l ρ α β : Type} {F : Fx ρ} {N : NR σ} {M : NR l} {t u : TS} {ε ε' : Ev} {L L1 L2 : Led} {te ti to ta tb : TE} {tA : TA} {o : Ctl σ l ρ} {K : PySem.W.Frag} {C : Cz}
theorem ev_take {i : Nat} {ds : List Nat} {p : Addr} {b : Int} (hx : ε[i]? = some (some (.own p))) (h : EV C te ε L (.dat (.int b)) L) (hm : (p, .lst (ds.map natD)) ∈ L) (hb : 0 < b) (hL : up L p (.lst ((tkD ds).map natD)) = L2) :
    EV C (tCall (lift C.K d_take) [] E0 (tCons (tVar i) (tCons te tNil))) ε L (.dat (.int (tkV ds b))) L2 := ev_call (ea_cons (ev_var hx) (ea_cons h ea_nil)) fun k q => ⟨ds, p, b, rfl, hm, hb, by rw [hL]; exact q⟩
theorem ix_map [Inhabited α] {β : Type} [Inhabited β] {e : α → β} {xs : List α} {i : Int} (h : okIx xs i) : ix (xs.map e) i = e (ix xs i) := by
  have := atI_ix h e
  unfold ix at this ⊢
  rw [this]
  rfl
theorem pk_map [Inhabited α] {e : α → PyData} {ds : List Nat} {xs : List α} (h : xs ≠ []) : pkV ds (xs.map e) = e (pkV ds xs) := by
  unfold pkV
  rw [List.length_map]
  exact ix_map (pk_ok h)
theorem ev_pickL [Inhabited α] {i : Nat} {ds : List Nat} {p : Addr} {e : α → PyData} {xs : List α} (hx : ε[i]? = some (some (.own p))) (h : EV C te ε L (.dat (eL e xs)) L1) (hm : (p, .lst (ds.map natD)) ∈ L1) (hb : xs ≠ []) (hL : up L1 p (.lst ((tkD ds).map natD)) = L2) :
    EV C (tCall (lift C.K d_pick) [] E0 (tCons (tVar i) (tCons te tNil))) ε L (.dat (e (pkV ds xs))) L2 := ev_call (ea_cons (ev_var hx) (ea_cons h ea_nil)) fun k q => ⟨ds, p, _, hm, rfl, rfl, rfl, fun z => hb (List.map_eq_nil_iff.mp z), by
      rw [hL]
      show k (.dat (pkV ds (xs.map e))) L2
      rw [pk_map hb]
      exact q⟩
theorem ev_pickT [Inhabited α] {i : Nat} {ds : List Nat} {p : Addr} {e : α → PyData} {xs : List α} (hx : ε[i]? = some (some (.own p))) (h : EV C te ε L (.dat (eT e xs)) L1) (hm : (p, .lst (ds.map natD)) ∈ L1) (hb : xs ≠ []) (hL : up L1 p (.lst ((tkD ds).map natD)) = L2) :
    EV C (tCall (lift C.K d_pick) [] E0 (tCons (tVar i) (tCons te tNil))) ε L (.dat (e (pkV ds xs))) L2 := ev_call (ea_cons (ev_var hx) (ea_cons h ea_nil)) fun k q => ⟨ds, p, _, hm, rfl, rfl, rfl, fun z => hb (List.map_eq_nil_iff.mp z), by
      rw [hL]
      show k (.dat (pkV ds (xs.map e))) L2
      rw [pk_map hb]
      exact q⟩
instance : Inhabited Str := ⟨⟨#[]⟩⟩
theorem ev_pickS {i : Nat} {ds : List Nat} {p : Addr} {z : Str} (hx : ε[i]? = some (some (.own p))) (h : EV C te ε L (.dat (.str z)) L1) (hm : (p, .lst (ds.map natD)) ∈ L1) (hz : z.length ≤ sizeLine) (hb : sgns z ≠ []) (hL : up L1 p (.lst ((tkD ds).map natD)) = L2) :
    EV C (tCall (lift C.K d_pick) [] E0 (tCons (tVar i) (tCons te tNil))) ε L (.dat (eS (pkV ds (sgns z)))) L2 := ev_call (ea_cons (ev_var hx) (ea_cons h ea_nil)) fun k q => by
      have es : z.cps.toList.map sgn = (sgns z).map eS := by
        unfold sgns
        rw [List.map_map]
        rfl
      refine ⟨ds, p, _, hm, rfl, decide_eq_true hz, rfl, ?_, ?_⟩
      · show z.cps.toList.map sgn ≠ []
        rw [es]
        exact fun y => hb (List.map_eq_nil_iff.mp y)
      · rw [hL]
        show k (.dat (pkV ds (z.cps.toList.map sgn))) L2
        rw [es, pk_map hb]
        exact q
/-- the ledger by a plain value -/
theorem hv_ltL {v : α} {q : α → Ctl σ l ρ} {Lf : α → Led} (h : ∀ x, HV F N M t ε (Lf x) (q x)) : HV F N M t ε (Lf v) (lt v q) := h v
/-- the draws' content, told anew -/
theorem hv_base {p : Addr} {ds : List PyData} (hm : (p, .lst ds) ∈ L) (h : HV F N M t ε (up L p (.lst ds)) o) : HV F N M t ε L o := fun P A σ H D R X E => by
  have e : up L p (.lst ds) = L := up_self fun m' h' => R.led.uniq h' hm
  exact h P A σ H D (by rw [e]; exact R) (by rw [e]; exact X) (by rw [e]; exact E)
/-- the whole draws of the law -/
theorem hv_draws {i : Nat} {ns : List Int} {q : List Nat → Ctl σ l ρ} (hx : ε[0]? = some (some (.scr ns))) (hn : ns.length ≤ 63) (h2 : ∀ p (ds : List Nat), p ∉ L.ks → HV F N M u (ε.set i (some (.own p))) (plus L p (ds.map natD)) o) :
    HV F N M (tSeq (tAsg (tCall (lift F.C.K d_draws) [] E0 (tCons (tVar 0) tNil)) (gName i)) u) ε L o := fun P A => hs_seq (hs_asg (cp_call (ca_cons (cp_var hx (ca_nil ⟨ns, rfl, hn, fun p ds hp => h2 p ds hp P A⟩)))))
/-- a call that changes a ledger -/
theorem ev_callU {d : DSp} {rs : List Rs} {z : Rs} {L3 : Led} (h1 : EA C tA ε L rs L1) (e : L3 = L2) (h2 : ∀ k : Rs → Led → Prop, k z L3 → d rs L1 k fun _ _ => False) : EV C (tCall (lift C.K d) [] E0 tA) ε L z L2 := ev_call h1 fun k q => h2 k (by rw [e]; exact q)
/-! ### the law's own comparison -/
open Classical in
noncomputable def m__law_same (a b : PyData) : Res Bool := if a = b ∧ okD 8 a then .ok true else .bad
@[reducible] def d_same : DSp := fun rs L k _ => ∃ a b, rs = [.dat a, .dat b] ∧ AccR (fun _ => 0) (m__law_same a b) (fun r => k (.dat (.bool r)) L) fun _ => False
theorem same_dSame {rs : List Rs} {k : Rs → Led → Prop} {x : Addr → Led → Prop} (h : d_same rs L k x) : dSame 9 rs L k x := by
  obtain ⟨a, b, rfl, h⟩ := h
  unfold m__law_same at h
  split at h
  · rename_i q
    obtain ⟨rfl, ok⟩ := q
    exact ⟨a, rfl, ok, h⟩
  · exact h.elim
/-! ### try -/
end
def flV (c : Nat) : List Bool := [c == 0, c == 1, c == 2, c == 3, c == 4]
def tryB {σ l ρ : Type} (cs : List Nat) (o : Ctl σ l ρ) (h : Nat → Ctl σ l ρ) : Ctl σ l ρ := match o with
  | .ex c => if c ∈ cs then h c else .bad
  | o => o
section
variable {σ l ρ α β : Type} {F : Fx ρ} {N : NR σ} {M : NR l} {t u : TS} {ε ε' : Ev} {L L1 L2 : Led} {te ti to ta tb : TE} {tA : TA} {o : Ctl σ l ρ} {K : PySem.W.Frag} {C : Cz}
/-- try .. except c₀ as n (slot i), the suite leading out -/
def tTryAs (K : PySem.W.Frag) (c₀ : Value) (i : Nat) (tb : WX → TS) (ts : Addr → Value → Option Addr → TS) (Wout : WX) : TS := fun D σ H => tb (wAs K c₀ i ts Wout D) D σ H
theorem hv_tryAs {c₀ : Value} {i : Nat} {tb : WX → TS} {ts : Addr → Value → Option Addr → TS} {Wout : WX} {cs : List Nat} {h : Nat → Ctl σ l ρ}
    (hb : ∀ (W : WX) (kx : KX), HV ⟨⟨F.C.K, W, kx⟩, F.ca, F.R, fun ε' L' => ε' = ε ∧ L' = L⟩ N M (tb W) ε L o)
    (hx : ∀ c ∈ cs, PySem.W.exmOne K (.ref (F.ca c)) c₀ = some true)
    (hh : ∀ c ∈ cs, ∀ a, HV F (fun _ _ _ => False) (fun _ _ _ => False) (ts a (.ref (F.ca c)) none) (ε.set i (some (.raw (.ref a)))) L (h c)) (hK : F.C.K = K := by rfl) :
    HV F N M (tTryAs K c₀ i tb ts Wout) ε L (tryB cs o h) := fun P A => by
  refine hs_tryAs (K := K) (fun c' ε' L' => ∃ c, c ∈ cs ∧ c' = F.ca c ∧ ε' = ε ∧ L' = L ∧ Acc F N M P (h c)) (fun W => hb W _ P ?_) ?_ hK
  · cases o with
    | bad => exact A
    | nx s => exact A
    | ct s => exact A
    | bk s => exact A
    | rt r => exact A
    | ex c =>
      rintro ε' L' ⟨rfl, rfl⟩
      have A : Acc F N M P (if c ∈ cs then h c else .bad) := A
      by_cases hc : c ∈ cs
      · rw [if_pos hc] at A
        exact ⟨c, hc, rfl, rfl, rfl, A⟩
      · rw [if_neg hc] at A
        exact A.elim
  · rintro c' ε' L' ⟨c, hc, rfl, rfl, rfl, A⟩
    refine ⟨hx c hc, fun a => hh c hc a _ ?_⟩
    generalize h c = o2 at A
    cases o2 with
    | bad => exact A
    | nx s => exact fun _ _ f => f.elim
    | ct s => exact fun _ _ f => f.elim
    | bk s => exact fun _ _ f => f.elim
    | rt r => exact A
    | ex c => exact A
theorem ev_flags {cs : List Addr} {a c : Addr} {bs : List Bool} {j : Nat} (hF : FlagsAt C.K c cs bs) (hx : ε[j]? = some (some (.raw (.ref a)))) : EV C (tCallQ (spFlags C.K cs) a (.ref c) none (tCons (tVar j) tNil)) ε L (.dat (eL eB bs)) L := fun k q =>
  cp_flags hF.1 hF.2 (ca_cons (cp_var hx (ca_nil ⟨rfl, q⟩)))
/-! ### a def out of a list of defs -/
theorem hv_sel {b : Bool} {o1 o2 : Ctl σ l ρ} (h1 : b = true → HV F N M t ε L o1) (h2 : b = false → HV F N M t ε L o2) : HV F N M t ε L (bif b then o1 else o2) := by
  cases b with
  | true => exact h1 rfl
  | false => exact h2 rfl
theorem hv_retV {Kd : Addr → DSp → Prop} {ws : List V} {tL : TA} {i : Int} {f : Addr} {d : DSp} {rs : List Rs} {r : Res α} {enc : α → PyData} {g : α → ρ} (hl : EA F.C tL ε L (ws.map Rs.raw) L) (hz : ws.length ≤ sizeLine) (hi : EV F.C ti ε L (.dat (.int i)) L) (hf : atI ws i = some (.ref f)) (hk : Kd f d)
    (h : EA F.C tA ε L rs L) (hd : ∀ (k : Rs → Led → Prop) (x : Addr → Led → Prop), AccR F.ca r (fun v => k (.dat (enc v)) L) (fun c => x c L) → d rs L k x) (hX : F.X ε L) (hr : ∀ v, F.R (g v) (.dat (enc v)) L) (hK : F.C.K = K := by rfl) :
    HV F N M (tRet (tCallV (knD F.C.K Kd) (WE F.C.W) (tOp (rIx K) (tLst tL) ti) tA)) ε L (callC r fun v => .rt (g v)) := fun P A => hs_ret (cp_callV (cp_ixRaw (hl _ ⟨ws, rfl, hz, hi _ ⟨i, _, rfl, hf, f, d, rfl, hk, h _ (hd _ _ (by
  cases r with
  | bad => exact A.elim
  | ok v => exact A _ L (hr v)
  | ex c => exact A ε L hX))⟩⟩) hK))
/-! ### sorted(set(xs)), a tuple of whole numbers -/
end
def rSetTI (K : PySem.W.Frag) (w : World) : List V → Hp → VK → Prop := fun vs H Q => ∃ (a : Addr) (ns : List Int), vs = [V.ref a] ∧ SqT K H a (ns.map V.int) ∧ ns.length + 1 < scanBound ∧
  ∀ p n, n ≤ ns.length → H p = none → Q (.ref p) (upd H p (SetO w p (fun j => decide (j ∈ ns)) n))
theorem cr_setTI {X : Cx} (hc : X.calm = true) : CallR X (.type "set") (rSetTI X.K X.w) := by
  intro pins s σ H vs us Q I r h
  obtain ⟨a, ns, rfl, hs, hz, q⟩ := h
  obtain ⟨its, rv, hl, _⟩ := I.tuple hs
  rw [Vals.ref1 r]
  refine L2.call_set_tupI ns (I.ok.hd hc) hl (by simpa using rv.ints) hz fun h' tk c R hn hk => ?_
  have hfree : H s.heap.objs.size = none := I.hok.fresh (Nat.le_refl _)
  exact ⟨.ref _, upd H s.heap.objs.size (SetO X.w s.heap.objs.size (fun j => decide (j ∈ ns)) c), I.laid (t' := tk) hk (Nat.le_refl _) (setO_new R), rfl, q _ c hn hfree⟩
/-- ascending, each once -/
def insU (x : Int) : List Int → List Int
  | [] => [x]
  | y :: r => if x < y then x :: y :: r else if x = y then y :: r else y :: insU x r
def usort (xs : List Int) : List Int := xs.foldr insU []
theorem insU_mem {x z : Int} : ∀ {l : List Int}, z ∈ insU x l ↔ z = x ∨ z ∈ l
  | [] => by simp [insU]
  | y :: r => by
    unfold insU
    split
    · simp
    · split
      · rename_i h1 h2
        subst h2
        simp
      · rw [List.mem_cons, insU_mem, List.mem_cons]
        exact ⟨fun h => by rcases h with h | h | h <;> simp [h], fun h => by rcases h with h | h | h <;> simp [h]⟩
theorem insU_asc {x : Int} : ∀ {l : List Int}, l.Pairwise (· < ·) → (insU x l).Pairwise (· < ·)
  | [], _ => by simp [insU]
  | y :: r, h => by
    obtain ⟨h1, h2⟩ := List.pairwise_cons.mp h
    unfold insU
    split
    · rename_i q
      refine List.pairwise_cons.mpr ⟨fun z hz => ?_, h⟩
      rcases List.mem_cons.mp hz with e | e
      · omega
      · have := h1 z e
        omega
    · split
      · exact h
      · refine List.pairwise_cons.mpr ⟨fun z hz => ?_, insU_asc h2⟩
        rcases insU_mem.mp hz with e | e
        · omega
        · exact h1 z e
theorem usort_mem {z : Int} : ∀ {l : List Int}, z ∈ usort l ↔ z ∈ l
  | [] => by simp [usort]
  | y :: r => by
    have := usort_mem (z := z) (l := r)
    unfold usort at this ⊢
    rw [List.foldr_cons, insU_mem, this, List.mem_cons]
theorem usort_asc : ∀ (l : List Int), (usort l).Pairwise (· < ·)
  | [] => .nil
  | y :: r => insU_asc (usort_asc r)
theorem asc_uniq : ∀ {a b : List Int}, a.Pairwise (· < ·) → b.Pairwise (· < ·) → (∀ z, z ∈ a ↔ z ∈ b) → a = b
  | [], [], _, _, _ => rfl
  | [], y :: r, _, _, h => by have := (h y).mpr List.mem_cons_self; cases this
  | y :: r, [], _, _, h => by have := (h y).mp List.mem_cons_self; cases this
  | x :: a, y :: b, ha, hb, h => by
    obtain ⟨a1, a2⟩ := List.pairwise_cons.mp ha
    obtain ⟨b1, b2⟩ := List.pairwise_cons.mp hb
    have e : x = y := by
      rcases List.mem_cons.mp ((h x).mp List.mem_cons_self) with e | e
      · exact e
      · rcases List.mem_cons.mp ((h y).mpr List.mem_cons_self) with e2 | e2
        · exact e2.symm
        · have := a1 y e2
          have := b1 x e
          omega
    subst e
    congr 1
    refine asc_uniq a2 b2 fun z => ⟨fun hz => ?_, fun hz => ?_⟩
    · rcases List.mem_cons.mp ((h z).mp (List.mem_cons_of_mem _ hz)) with e | e
      · have := a1 z hz
        omega
      · exact e
    · rcases List.mem_cons.mp ((h z).mpr (List.mem_cons_of_mem _ hz)) with e | e
      · have := b1 z hz
        omega
      · exact e
theorem ev_sortSetT {C : Cz} {te : TE} {ε : Ev} {L L1 : Led} {w : World} {K : PySem.W.Frag} {ns : List Int} (h : EV C te ε L (.dat (eT eI ns)) L1) (hz : ns.length < 64) (hK : C.K = K := by rfl) :
    EV C (tCB (rSortedSet w) (tCons (tCB (rSetTI K w) (tCons te tNil)) tNil)) ε L (.dat (eL eI (usort ns))) L1 := fun k q σ H Q R X z => by
  subst hK
  refine h (fun r L' => r = .dat (eT eI ns) ∧ L' = L1) ⟨rfl, rfl⟩ σ H _ R X fun v r L2 H1 g1 k1 R1 o1 ⟨er, el⟩ => ?_
  subst er el
  have o1 : Rp C.K (hid L2 H1) v (.tuple (ns.map PyData.int)) := o1
  cases o1 with
  | @tup a xs _ e ha =>
    have ex := ints_of ha
    subst ex
    refine ⟨a, ns, rfl, ext_t hid_sub e, by show _ < 4096; omega, fun p n hn hp => ?_⟩
    refine ⟨p, _, n, rfl, upd_same, by omega, fun ms p2 h1 h2 h3 h4 => ?_⟩
    have em : ms = usort ns := asc_uniq h1 (usort_asc ns) fun z => by rw [h2, usort_mem]; exact decide_eq_true_iff
    subst em
    have g2 : Grow H1 L2 (upd H1 p (SetO w p (fun j => decide (j ∈ ns)) n)) L2 := grow_new hp
    have l2 := R1.led.new (o := SetO w p (fun j => decide (j ∈ ns)) n) hp
    have R2 := R1.grow g2 (Keeps.refl _) l2
    have g3 : Grow (upd H1 p (SetO w p (fun j => decide (j ∈ ns)) n)) L2 (upd (upd H1 p (SetO w p (fun j => decide (j ∈ ns)) n)) p2 (.lst ((usort ns).map V.int))) L2 := grow_new h4
    exact z _ (.dat (eL eI (usort ns))) L2 _ ((g1.trans g2).trans g3) k1 (R2.grow g3 (Keeps.refl _) (l2.new h4)) (.lst (by rw [hid_out (l2.fresh h4)]; exact upd_same) (rpAll_ints _)) q
end Y

set_option Elab.async false
set_option linter.all false
set_option maxRecDepth 100000
set_option maxHeartbeats 2000000
namespace Y
open PySem PySem.Spec PyProof.Rows L2 Z
/-! ### comprehensions whose items draw: the ledger goes on -/
def mapS {α β δ : Type} (f : α → δ → β × δ) : List α → δ → List β × δ
  | [], s => ([], s)
  | x :: r, s => ((f x s).1 :: (mapS f r (f x s).2).1, (mapS f r (f x s).2).2)
theorem mapS_app {α β δ : Type} (f : α → δ → β × δ) : ∀ (xs : List α) (x : α) (s : δ), mapS f (xs ++ [x]) s = ((mapS f xs s).1 ++ [(f x (mapS f xs s).2).1], (f x (mapS f xs s).2).2)
  | [], x, s => rfl
  | y :: r, x, s => by
    rw [List.cons_append]
    unfold mapS
    rw [mapS_app f r x]
    rfl
theorem mapS_len {α β δ : Type} (f : α → δ → β × δ) : ∀ (xs : List α) (s : δ), (mapS f xs s).1.length = xs.length
  | [], s => rfl
  | y :: r, s => by
    unfold mapS
    rw [List.length_cons, List.length_cons, mapS_len f r]
theorem mapS_all {α β δ : Type} {f : α → δ → β × δ} {p : β → Prop} : ∀ {xs : List α} {s : δ}, (∀ x ∈ xs, ∀ s, p (f x s).1) → ∀ y ∈ (mapS f xs s).1, p y
  | [], s, _ => fun y hy => by cases hy
  | x :: r, s, h => fun y hy => by
    unfold mapS at hy
    rcases List.mem_cons.mp hy with e | e
    · rw [e]
      exact h x List.mem_cons_self s
    · exact mapS_all (fun x hx => h x (List.mem_cons_of_mem _ hx)) y e
section
variable {C : Cz} {ε : Ev} {L : Led} {wi : TI} {g : TG} {te : TE} {vs : List Nat} {α β δ : Type}
theorem plus_ks2 {L1 L2 : Led} {p : Addr} {a b : List PyData} (h : L1.ks = L2.ks) : (plus L1 p a).ks = (plus L2 p b).ks := by
  unfold plus Led.ks at *
  rw [List.map_append, List.map_append, h]
  rfl
theorem cp_lcS {k : Rs → Led → Prop} {Lf : δ → Led} (hks : ∀ s s', (Lf s).ks = (Lf s').ks) {xs : List α} {g0 : α → PyData} {e : β → PyData} {f : α → δ → β × δ} {s1 : δ} (hi : EI C wi ε L (xs.map g0) (Lf s1)) (hz : xs.length < sizeLine)
    (hb : ∀ x ∈ xs, ∀ s acc p, p ∉ (Lf s).ks → ∃ ε2, EG (C0 C.K) g (.dat (g0 x)) (wipeE ε vs) (plus (Lf s) p acc) ε2 ∧ EV (C0 C.K) te ε2 (plus (Lf s) p acc) (.dat (e (f x s).1)) (plus (Lf (f x s).2) p acc))
    (q : k (.dat (eL e (mapS f xs s1).1)) (Lf (mapS f xs s1).2)) (ho : GOwn g vs) : CP C (tLc wi g tYes te vs) ε L k := fun σ H Q R X z =>
  hi (fun ds L' => ds = xs.map g0 ∧ L' = Lf s1) ⟨rfl, rfl⟩ σ H _ R X fun J ds L0 H1 g1 k1 R1 J1 ⟨eds, eL0⟩ D hD => by
    subst eds eL0
    have hDn : ∀ s, D ∉ (Lf s).ks := fun s => by
      rw [hks s s1]
      exact R1.led.fresh hD
    have kk : ∀ s, Keeps (Lf s1) (plus (Lf s) D ((mapS f xs s1).1.map e)) := fun s a ha => keeps_own a (by rw [hks s s1]; exact ha)
    refine ⟨fun i m H' => m = xs.length - i ∧ i ≤ xs.length ∧ Grow H1 (Lf s1) H' (plus (Lf (mapS f (xs.take i) s1).2) D ((mapS f (xs.take i) s1).1.map e)) ∧ LOk C.K (plus (Lf (mapS f (xs.take i) s1).2) D ((mapS f (xs.take i) s1).1.map e)) H', ⟨_, rfl, Nat.zero_le _, grow_own hD, R1.led.own hD .nil⟩, ?_⟩
    rintro i m H' ⟨rfl, hl, g', l'⟩
    obtain ⟨js, jg⟩ := J1 _ H' g' l' i
    generalize hs : (mapS f (xs.take i) s1).2 = s at g' l' js jg
    generalize ha : (mapS f (xs.take i) s1).1 = acc at g' l' js jg
    have hal : acc.length ≤ i := by
      rw [← ha, mapS_len, List.length_take]
      exact Nat.min_le_left _ _
    have RW : Rel C.K (plus (Lf s) D (acc.map e)) (wipeE ε vs) (wipe σ vs) H' := (rel_wipe R1 vs).grow g' (fun a ha => keeps_own a (by rw [hks s s1]; exact ha)) l'
    by_cases hlt : i < xs.length
    · have hx : xs[i]? = some xs[i] := List.getElem?_eq_getElem hlt
      obtain ⟨j1, j2⟩ := jg (g0 xs[i]) (by rw [List.getElem?_map, hx]; rfl)
      have et : xs.take (i + 1) = xs.take i ++ [xs[i]] := by rw [List.take_add_one, hx] <;> rfl
      have em := mapS_app f (xs.take i) xs[i] s1
      rw [← et, hs, ha] at em
      refine .inr ⟨j1, fun H2 => i + 1 ≤ xs.length ∧ Grow H1 (Lf s1) H2 (plus (Lf (mapS f (xs.take (i + 1)) s1).2) D ((mapS f (xs.take (i + 1)) s1).1.map e)) ∧ LOk C.K (plus (Lf (mapS f (xs.take (i + 1)) s1).2) D ((mapS f (xs.take (i + 1)) s1).1.map e)) H2, fun H2 ⟨a, b⟩ => ⟨xs.length - (i + 1), by omega, rfl, a, b⟩, fun v H2 y => ?_⟩
      obtain ⟨g2, l2, rp⟩ := j2 v H2 y
      obtain ⟨ε2, h1, h2⟩ := hb xs[i] (List.mem_of_getElem? hx) s (acc.map e) D (hDn s)
      refine ho.use ?_
      refine h1 (fun ε' L' => ε' = ε2 ∧ L' = plus (Lf s) D (acc.map e)) ⟨rfl, rfl⟩ v (wipe σ vs) H2 _ (RW.grow g2 (Keeps.refl _) l2) rp fun ε3 L3 σ3 H3 g3 k3 R3 ⟨e3, e4⟩ => ?_
      subst e3 e4
      refine h2 (fun r L' => r = .dat (e (f xs[i] s).1) ∧ L' = plus (Lf (f xs[i] s).2) D (acc.map e)) ⟨rfl, rfl⟩ σ3 H3 _ R3 exOk0 fun w r L5 H5 g5 k5 R5 o5 ⟨er, el⟩ => ?_
      subst er el
      obtain ⟨ys, ex, hxs⟩ := R5.led.isLst (List.mem_append_right _ List.mem_cons_self)
      have gg := ((g'.trans (g2.trans (g3.trans g5))).trans (grow_app (p := D) (acc := acc.map e) (acc' := acc.map e ++ [e (f xs[i] s).1]) (o := HO.lst (ys ++ [w]))))
      have la := R5.led.app ex o5
      have e6 : acc.map e ++ [e (f xs[i] s).1] = (acc ++ [(f xs[i] s).1]).map e := by
        rw [List.map_append]
        rfl
      rw [e6] at gg la
      refine ⟨ys, ex, by rw [rpAll_len hxs, List.length_map]; omega, hlt, ?_, ?_⟩
      · rw [em]
        exact gg
      · rw [em]
        exact la
    · have e2 : i = xs.length := by omega
      subst e2
      rw [List.take_length] at hs ha
      subst hs ha
      obtain ⟨ys, ex, hxs⟩ := l'.isLst (List.mem_append_right _ List.mem_cons_self)
      have l2 := l'.drop
      have g2 : Grow H1 (Lf s1) H' (Lf (mapS f xs s1).2) := ⟨g'.old, fun a ha => .inl (by rw [hks s1 (mapS f xs s1).2]; exact ha)⟩
      have k2 : Keeps (Lf s1) (Lf (mapS f xs s1).2) := fun a ha => by
        rw [hks _ s1]
        exact ha
      exact .inl ⟨js (by rw [List.length_map]), z (.ref D) (.dat (eL e (mapS f xs s1).1)) _ H' (g1.trans g2) (k1.trans k2) (R1.grow g2 k2 l2) (.lst (by rw [hid_out (hDn _)]; exact ex) (rpAll_mono ext_drop hxs)) q⟩
theorem ev_lcS {Lf : δ → Led} (hks : ∀ s s', (Lf s).ks = (Lf s').ks) {xs : List α} {g0 : α → PyData} {e : β → PyData} {f : α → δ → β × δ} {s1 : δ} (hi : EI C wi ε L (xs.map g0) (Lf s1)) (hz : xs.length < sizeLine)
    (hb : ∀ x ∈ xs, ∀ s acc p, p ∉ (Lf s).ks → ∃ ε2, EG (C0 C.K) g (.dat (g0 x)) (wipeE ε vs) (plus (Lf s) p acc) ε2 ∧ EV (C0 C.K) te ε2 (plus (Lf s) p acc) (.dat (e (f x s).1)) (plus (Lf (f x s).2) p acc))
    (ho : GOwn g vs) : EV C (tLc wi g tYes te vs) ε L (.dat (eL e (mapS f xs s1).1)) (Lf (mapS f xs s1).2) := fun k q => cp_lcS hks hi hz hb q ho
end
theorem ps_tryY {X : Cx} {Wout : WX} {i : Nat} {n x : Str} {c : Value} {body : List Stmt} {b₀ : Stmt} {suite : List Stmt} {np pos pos' : Pos} {tb : WX → TS} {ts : Addr → Value → Option Addr → TS} (hs : X.stack = X.env :: X.outer) (hf : X.env.frame = some X.env.locals) (hN : X.N.Nodup) (hi : X.N[i]? = some n) (hln : X.env.kindOf n = some .local) (hc : Names X x c) (tk : Takes X Wout)
    (hb : ∀ (W : WX) (pn : List (Addr × Obj)) (xe : Value → Shared → Prop), Takes (X.tr pn xe) W → PassesOwn (model X.prog X.w) X.A X.env xe → PSs (X.tr pn xe) body (tb W))
    (hsu : ∀ (a : Addr) (oe : Obj) (cls : Value) (d : Option Addr) (pn : List (Addr × Obj)), Zc cls d oe → (∃ vs, oe.data = .fields vs) → PSs (X.suite a ((a, oe) :: pn)) (b₀ :: suite) (ts a cls d)) :
    PS X (.Try body [.ExceptHandler (some (.Name x np)) (some n) (b₀ :: suite) pos'] [] [] pos) (tTryAs X.K c i tb ts Wout) := ps_try_as hs hf hN hi hln hc tk hb hsu
theorem inU {k : Nat} {A : Around} (r : Room k A) : A.in1.units + 64 < cLine := by
  have := r.un
  show A.units + 1 + 64 < _
  omega
/-! an item of a value of unknown kind -/
def isLT : PyData → Bool
  | .list _ => true
  | .tuple _ => true
  | _ => false
section
variable {C : Cz} {L : Led} {k : Rs → Led → Prop} {K : PySem.W.Frag}
theorem od_ixD {d : PyData} {i : Int} (h : isLT d = true) (h2 : okIx (itemsD d) i) (q : k (.dat (ix (itemsD d) i)) L) (hK : C.K = K := by rfl) : OD C (rIx K) (.dat d) (.dat (.int i)) L k := by
  have e : atI (itemsD d) i = some (ix (itemsD d) i) := by
    have := atI_ix h2 (fun x : PyData => x)
    rw [List.map_id'] at this
    exact this
  cases d with
  | list ds => exact od_ix_lst e q hK
  | tuple ds => exact od_ix_tup e q hK
  | _ => cases h
/-- equal to an empty list, an empty tuple -/
theorem eqv_nilL {α : Type} (e : α → PyData) (xs : List α) : PyData.eqv (eL e xs) (.list []) = xs.isEmpty := by
  cases xs <;> rfl
theorem eqv_nilT {α : Type} (e : α → PyData) (xs : List α) : PyData.eqv (eT e xs) (.tuple []) = xs.isEmpty := by
  cases xs <;> rfl
theorem okNilL : okEq (.list []) := ⟨by decide, rfl⟩
theorem okNilT : okEq (.tuple []) := ⟨by decide, rfl⟩
end
theorem fnX {P : Program} {w : World} {K : PySem.W.Frag} {mg : Str → Option Value} {base : Heap} {k : Nat} {f : Addr} {fd : FuncData} {ps : List Str} {sp : Sp} (F : FnOk P w K mg base CX0 k f fd ps sp) : FnOk P w K mg base (L2.CX P w) k f fd ps sp :=
  ⟨F.len, fun A outer s H args us vs Q E hr he hb hv hs => codeAny_mono (F.run A outer s H args us vs Q E hr he hb hv hs) fun r s' hq => by
    cases r with
    | ok fl => cases fl <;> exact hq
    | error e => exact hq.elim⟩
theorem hasX_of {P : Program} {w : World} {K : PySem.W.Frag} {mg : Str → Option Value} {base : Heap} {k : Nat} {x : Str} {ps : List Str} {d : DSp} (h : Has P w K mg base k x ps d) : HasX P w K mg base k x ps d := by
  obtain ⟨f, fd, a, b, c, F⟩ := h
  exact ⟨f, fd, a, b, c, fnX F⟩
theorem has_imp {P : Program} {w : World} {K : PySem.W.Frag} {mg : Str → Option Value} {base : Heap} {k : Nat} {x : Str} {ps : List Str} {d d' : DSp} (h : Has P w K mg base k x ps d) (i : ∀ rs L k x, d' rs L k x → d rs L k x) : Has P w K mg base k x ps d' := by
  obtain ⟨f, fd, a, b, c, F⟩ := h
  exact ⟨f, fd, a, b, c, F.imp fun vs H Q E ⟨rs, L, k, x, o, l, hd, z⟩ => ⟨rs, L, k, x, o, l, i _ _ _ _ hd, z⟩⟩
theorem hs_base {C : Cz} {t : TS} {ε : Ev} {L : Led} {P : Post} {p : Addr} {ds : List PyData} (hm : (p, .lst ds) ∈ L) (h : HS C t ε (up L p (.lst ds)) P) : HS C t ε L P := fun σ H D R X E => by
  have e : up L p (.lst ds) = L := up_self fun m' h' => R.led.uniq h' hm
  exact h σ H D (by rw [e]; exact R) (by rw [e]; exact X) (by rw [e]; exact E)
theorem fin1 {ρ : Type} {K : PySem.W.Frag} {ca : Nat → Addr} {enc : ρ → PyData} {Lf : ρ → Led} {L L1 : Led} {k : Rs → Led → Prop} {t : TS} {ε : Ev} {o : Ctl Unit Unit ρ} {X : Ev → Led → Prop} (hk : ∀ r, Keeps L (Lf r)) (A : AccR ca (run o) (fun r => k (.dat (enc r)) (Lf r)) fun _ => False)
    (h : HV ⟨C0 K, ca, RF enc Lf, X⟩ (fun _ _ _ => False) (fun _ _ _ => False) t ε L1 o) : HS (C0 K) t ε L1 (dPost L k) := h _ (by
  cases o with
  | nx s => exact A.elim
  | bad => exact A.elim
  | ct s => exact A.elim
  | bk s => exact A.elim
  | rt r => exact fun v L' hr => ⟨Lf r, _, hr.1, hr.2, hk r, A⟩
  | ex c => exact A.elim)
end Y

set_option Elab.async false
set_option linter.all false
set_option maxRecDepth 100000
set_option maxHeartbeats 2000000
/-! plain lemmas on ranges, items, slices -/
namespace Y
open PySem PySem.Spec PyProof.Rows L2 Z
def nI (C : List Nat) : List Int := C.map fun c : Nat => (c : Int)
theorem nI_len (C : List Nat) : (nI C).length = C.length := List.length_map _
theorem nI_app (a b : List Nat) : nI (a ++ b) = nI a ++ nI b := List.map_append
theorem nI_mem {C : List Nat} {c : Nat} : (c : Int) ∈ nI C ↔ c ∈ C := by
  unfold nI
  rw [List.mem_map]
  exact ⟨fun ⟨a, h, e⟩ => by rw [← Int.ofNat.inj e]; exact h, fun h => ⟨c, h, rfl⟩⟩
theorem nI_inj {a b : List Nat} (h : nI a = nI b) : a = b := by
  have := congrArg (List.map Int.toNat) h
  unfold nI at this
  rw [List.map_map, List.map_map] at this
  have e : (Int.toNat ∘ fun c : Nat => (c : Int)) = id := by
    funext c
    simp
  rw [e, List.map_id, List.map_id] at this
  exact this
theorem nI_of {cs : List Int} (h : ∀ c ∈ cs, 0 ≤ c) : nI (cs.map Int.toNat) = cs := by
  unfold nI
  rw [List.map_map]
  refine (List.map_congr_left fun c hc => ?_).trans (List.map_id cs)
  exact Int.toNat_of_nonneg (h c hc)
theorem rngI_nat (a b : Nat) : rngI (a : Int) (b : Int) = nI (List.range' a (b - a)) := by
  unfold rngI nI
  rw [List.range'_eq_map_range, List.map_map, show ((b : Int) - (a : Int)).toNat = b - a by omega]
  refine List.map_congr_left fun i _ => ?_
  show (a : Int) + (i : Int) = ((a + i : Nat) : Int)
  omega
theorem rngI_zero (b : Nat) : rngI 0 (b : Int) = nI (List.range b) := by
  have := rngI_nat 0 b
  rw [Nat.sub_zero, ← List.range_eq_range'] at this
  exact this
theorem rngI_mem {lo hi x : Int} : x ∈ rngI lo hi ↔ lo ≤ x ∧ x < hi := by
  unfold rngI
  rw [List.mem_map]
  constructor
  · rintro ⟨i, hi', rfl⟩
    have := List.mem_range.mp hi'
    omega
  · rintro ⟨h1, h2⟩
    exact ⟨(x - lo).toNat, List.mem_range.mpr (by omega), by omega⟩
theorem rngI_len (lo hi : Int) : (rngI lo hi).length = (hi - lo).toNat := by
  unfold rngI
  rw [List.length_map, List.length_range]
theorem rngI_get {lo hi : Int} {i : Nat} {x : Int} (h : (rngI lo hi)[i]? = some x) : x = lo + (i : Int) ∧ (i : Int) < hi - lo := by
  unfold rngI at h
  rw [List.getElem?_map] at h
  by_cases hl : i < (hi - lo).toNat
  · rw [List.getElem?_range hl] at h
    cases h
    exact ⟨rfl, by omega⟩
  · rw [List.getElem?_eq_none (by rw [List.length_range]; omega)] at h
    cases h
theorem rngI_nil {lo hi : Int} (h : hi ≤ lo) : rngI lo hi = [] := by
  unfold rngI
  rw [show (hi - lo).toNat = 0 by omega]
  rfl
theorem bnd_of {n : Int} (h : -1000000000000000000 ≤ n ∧ n ≤ 1000000000000000000) : bnd n := ⟨by omega, by omega⟩
theorem enumI_eq {α : Type} (xs : List α) : enumI xs = xs.zipIdx.map fun p => ((p.2 : Int), p.1) := rfl
theorem enumI_get {α : Type} {xs : List α} {i : Nat} {p : Int × α} (h : (enumI xs)[i]? = some p) : p.1 = (i : Int) ∧ xs[i]? = some p.2 := by
  unfold enumI at h
  rw [List.getElem?_map, List.getElem?_zipIdx] at h
  cases e : xs[i]? with
  | none =>
    rw [e] at h
    cases h
  | some x =>
    rw [e] at h
    cases h
    exact ⟨by show ((0 + i : Nat) : Int) = i; omega, rfl⟩
theorem enumI_len {α : Type} (xs : List α) : (enumI xs).length = xs.length := by
  unfold enumI
  rw [List.length_map, List.length_zipIdx]
section
variable {α : Type}
theorem okIx_nat {xs : List α} {k : Nat} (h : k < xs.length) : okIx xs (k : Int) := by
  have e : atI xs (k : Int) = some xs[k] := atI_nat (List.getElem?_eq_getElem h)
  show (atI xs _).isSome = true
  rw [e]
  rfl
theorem okIx_int {xs : List α} {i : Int} (h0 : 0 ≤ i) (h : i < xs.length) : okIx xs i := by
  have e : i = ((i.toNat : Nat) : Int) := (Int.toNat_of_nonneg h0).symm
  rw [e]
  exact okIx_nat (by omega)
theorem ix_nat [Inhabited α] {xs : List α} {k : Nat} {x : α} (h : xs[k]? = some x) : ix xs (k : Int) = x := by
  unfold ix
  rw [atI_nat h]
  rfl
theorem ix_int [Inhabited α] {xs : List α} {i : Int} {x : α} (h0 : 0 ≤ i) (h : xs[i.toNat]? = some x) : ix xs i = x := by
  have e : i = ((i.toNat : Nat) : Int) := (Int.toNat_of_nonneg h0).symm
  rw [e]
  exact ix_nat h
theorem okIx_last {xs : List α} (h : xs ≠ []) : okIx xs (-1) := by
  have e : xs[xs.length - 1]? = some (xs.getLast h) := by
    rw [← List.getLast?_eq_getElem?, List.getLast?_eq_some_getLast h]
  show (atI xs _).isSome = true
  rw [at_last e]
  rfl
theorem ix_last [Inhabited α] {xs : List α} (h : xs ≠ []) : ix xs (-1) = xs.getLast h := by
  have e : xs[xs.length - 1]? = some (xs.getLast h) := by
    rw [← List.getLast?_eq_getElem?, List.getLast?_eq_some_getLast h]
  unfold ix
  rw [at_last e]
  rfl
theorem cut_tail (l : List α) : Z.cutD l (some 1) none = l.drop 1 := by
  unfold Z.cutD
  rw [HT.sIx_none]
  have e : HT.sIx l.length 0 (some 1) = min 1 l.length := HT.sIx_nat l.length 0 1
  rw [e]
  cases l with
  | nil => rfl
  | cons a r =>
    rw [Nat.min_eq_left (by simp)]
    rw [List.take_of_length_le (by rw [List.length_drop]; omega)]
theorem cut_nat (l : List α) (a b : Nat) (ha : a ≤ l.length) (hb : b ≤ l.length) : Z.cutD l (some (a : Int)) (some (b : Int)) = (l.drop a).take (b - a) := by
  unfold Z.cutD
  rw [HT.sIx_nat, HT.sIx_nat, Nat.min_eq_left ha, Nat.min_eq_left hb]
theorem cut_to (l : List α) (b : Nat) : Z.cutD l none (some (b : Int)) = l.take b := by
  unfold Z.cutD
  rw [HT.sIx_none, HT.sIx_nat, List.drop_zero, Nat.sub_zero]
  by_cases h : b ≤ l.length
  · rw [Nat.min_eq_left h]
  · rw [Nat.min_eq_right (by omega), List.take_length, List.take_of_length_le (by omega)]
theorem cut_from (l : List α) (a : Nat) : Z.cutD l (some (a : Int)) none = l.drop a := by
  unfold Z.cutD
  rw [HT.sIx_none, HT.sIx_nat]
  by_cases h : a ≤ l.length
  · rw [Nat.min_eq_left h, List.take_of_length_le (by rw [List.length_drop]; omega)]
  · rw [Nat.min_eq_right (by omega), List.drop_length, List.drop_of_length_le (by omega)]
    simp
theorem cut_le (l : List α) (lo hi : Option Int) : (Z.cutD l lo hi).length ≤ l.length := by
  unfold Z.cutD
  rw [List.length_take, List.length_drop]
  omega
theorem filter_isEmpty {p : α → Bool} {l : List α} : (l.filter p).isEmpty = l.all fun x => !p x := by
  induction l with
  | nil => rfl
  | cons a r ih =>
    rw [List.filter_cons, List.all_cons]
    cases h : p a with
    | true => rfl
    | false =>
      rw [if_neg (by decide), ih]
      rfl
theorem map_same (l : List α) : (l.map fun x : α => x) = l := List.map_id l
/-- two lists side by side -/
theorem all_of {p : α → Bool} {l : List α} (h : ∀ x ∈ l, p x = true) : l.all p = true := List.all_eq_true.mpr h
end
theorem asc_all {ns : List Int} : ((ns.zip (ns.drop 1)).all fun p => decide (p.1 < p.2)) = true ↔ ns.Pairwise (· < ·) := by
  rw [List.all_eq_true]
  induction ns with
  | nil => simp
  | cons a r ih =>
    cases r with
    | nil => simp
    | cons b t =>
      have e : (a :: b :: t).zip ((a :: b :: t).drop 1) = (a, b) :: ((b :: t).zip ((b :: t).drop 1)) := rfl
      rw [e]
      constructor
      · intro h
        have h1 : a < b := of_decide_eq_true (h (a, b) List.mem_cons_self)
        have h2 := ih.mp fun x hx => h x (List.mem_cons_of_mem _ hx)
        refine List.pairwise_cons.mpr ⟨fun z hz => ?_, h2⟩
        rcases List.mem_cons.mp hz with q | q
        · rw [q]
          exact h1
        · exact Int.lt_trans h1 ((List.pairwise_cons.mp h2).1 z q)
      · intro h
        obtain ⟨h1, h2⟩ := List.pairwise_cons.mp h
        intro x hx
        rcases List.mem_cons.mp hx with q | q
        · rw [q]
          exact decide_eq_true (h1 b List.mem_cons_self)
        · exact ih.mpr h2 x q
/-- an integer within bounds, no truth value -/
def wi (v : PyData) (lo hi : Int) : Bool := match v with
  | .int i => decide (lo ≤ i) && decide (i ≤ hi)
  | _ => false
theorem wi_int {i lo hi : Int} : wi (.int i) lo hi = true ↔ lo ≤ i ∧ i ≤ hi := by
  show (decide (lo ≤ i) && decide (i ≤ hi)) = true ↔ _
  rw [Bool.and_eq_true, decide_eq_true_eq, decide_eq_true_eq]
section
variable {α : Type} (t : Ty α)
@[simp] theorem ty_p (a : α) : t.p (t.e a) = true := t.pe a
@[simp] theorem ty_f (a : α) : t.f (t.e a) = a := t.fe a
end
@[simp] theorem tyI_p (i : Int) : tyI.p (eI i) = true := rfl
@[simp] theorem tyI_f (i : Int) : tyI.f (eI i) = i := rfl
@[simp] theorem tyTI_p (xs : List Int) : (tyT tyI).p (eT eI xs) = true := (tyT tyI).pe xs
@[simp] theorem tyTI_f (xs : List Int) : (tyT tyI).f (eT eI xs) = xs := (tyT tyI).fe xs
theorem all_lt {n : Nat} {a b : List Nat} : a.length = b.length → a = b → True := fun _ _ => trivial
/-- what a loop's turn gives is known: the fold's value -/
theorem forC_fold {α σ l ρ : Type} {xs : List α} {s0 : σ} {f : α → σ → Ctl σ σ ρ} (v : Nat → σ) (h0 : s0 = v 0) (h : ∀ i x, xs[i]? = some x → f x (v i) = .nx (v (i + 1))) : (forC xs s0 f : Ctl σ l ρ) = .nx (v xs.length) := by
  obtain ⟨s', e, q⟩ := forC_inv (l := l) (xs := xs) (s0 := s0) (f := f) (fun i s => s = v i) h0 fun i x s hx hs => ⟨v (i + 1), .inl (by rw [hs]; exact h i x hx), rfl⟩
  rw [e, q]
/-- a loop that only looks -/
theorem forC_unit {α l ρ : Type} {xs : List α} {f : α → Unit → Ctl Unit Unit ρ} (h : ∀ x ∈ xs, f x () = .nx ()) : (forC xs () f : Ctl Unit l ρ) = .nx () :=
  forC_fold (fun _ => ()) rfl fun i x hx => h x (List.mem_of_getElem? hx)
/-- a loop whose state doesn't matter -/
theorem forC_any {α σ l ρ : Type} {xs : List α} {s0 : σ} {f : α → σ → Ctl σ σ ρ} (h : ∀ x ∈ xs, ∀ s, ∃ s', f x s = .nx s') : ∃ s', (forC xs s0 f : Ctl σ l ρ) = .nx s' := by
  obtain ⟨s', e, _⟩ := forC_inv (l := l) (xs := xs) (s0 := s0) (f := f) (fun _ _ => True) trivial fun i x s hx _ => by
    obtain ⟨s', e⟩ := h x (List.mem_of_getElem? hx) s
    exact ⟨s', .inl e, trivial⟩
  exact ⟨s', e⟩
theorem same_ok {d : PyData} (h : okD 8 d) : m__law_same d d = .ok true := by
  unfold m__law_same
  rw [if_pos ⟨rfl, h⟩]
end Y
namespace Y
open PySem PySem.Spec PyProof.Rows L2 Z
/-- neighbours, by their places and side by side -/
theorem pairs_rng {α : Type} [Inhabited α] (ms : List α) : (rngI 0 ((ms.length : Int) - 1)).map (fun k => (ix ms k, ix ms (k + 1))) = ms.zip (ms.drop 1) := by
  apply List.ext_getElem?
  intro i
  rw [List.getElem?_map]
  by_cases h : i + 1 < ms.length
  · have e : (rngI 0 ((ms.length : Int) - 1))[i]? = some (0 + (i : Int)) := by
      unfold rngI
      rw [List.getElem?_map, List.getElem?_range (by omega)]
      rfl
    have e1 : ms[i]? = some ms[i] := List.getElem?_eq_getElem (by omega)
    have e2 : ms[i + 1]? = some ms[i + 1] := List.getElem?_eq_getElem h
    rw [e]
    show some (ix ms (0 + (i : Int)), ix ms (0 + (i : Int) + 1)) = _
    rw [Int.zero_add, ix_nat e1, show ((i : Int) + 1) = ((i + 1 : Nat) : Int) by omega, ix_nat e2]
    refine (List.getElem?_zip_eq_some.mpr ⟨e1, ?_⟩).symm
    rw [List.getElem?_drop, Nat.add_comm, e2]
  · have e : (rngI 0 ((ms.length : Int) - 1))[i]? = none := List.getElem?_eq_none (by rw [rngI_len]; omega)
    rw [e]
    symm
    exact List.getElem?_eq_none (by rw [List.length_zip, List.length_drop]; omega)
theorem pairs_filter {α : Type} [Inhabited α] (ms : List α) (p : α → α → Bool) : ((rngI 0 ((ms.length : Int) - 1)).filter fun k => p (ix ms k) (ix ms (k + 1))).isEmpty = (ms.zip (ms.drop 1)).all fun q => !p q.1 q.2 := by
  rw [filter_isEmpty, ← pairs_rng ms, List.all_map]
  rfl
theorem pairs_ok {α : Type} {ms : List α} : ∀ x ∈ rngI 0 ((ms.length : Int) - 1), okIx ms x ∧ okIx ms (x + 1) := fun x hx => by
  obtain ⟨h1, h2⟩ := rngI_mem.mp hx
  exact ⟨okIx_int h1 (by omega), okIx_int (by omega) (by omega)⟩
theorem okD_int8 : ∀ (n : Nat) (i : Int), okD n (.int i) := okD_int
theorem okD_L {α : Type} {e : α → PyData} {n : Nat} {xs : List α} (h : xs.length ≤ 1000000) (h2 : ∀ x ∈ xs, okD n (e x)) : okD (n + 1) (eL e xs) := ⟨by rw [List.length_map]; exact h, fun d hd => by
  obtain ⟨x, hx, rfl⟩ := List.mem_map.mp hd
  exact h2 x hx⟩
theorem okD_T {α : Type} {e : α → PyData} {n : Nat} {xs : List α} (h : xs.length ≤ 1000000) (h2 : ∀ x ∈ xs, okD n (e x)) : okD (n + 1) (eT e xs) := ⟨by rw [List.length_map]; exact h, fun d hd => by
  obtain ⟨x, hx, rfl⟩ := List.mem_map.mp hd
  exact h2 x hx⟩
theorem usort_id {xs : List Int} (h : xs.Pairwise (· < ·)) : usort xs = xs := asc_uniq (usort_asc xs) h fun _ => usort_mem
theorem insU_len (x : Int) : ∀ l : List Int, (insU x l).length ≤ l.length + 1
  | [] => by simp [insU]
  | y :: r => by
    have := insU_len x r
    unfold insU
    split
    · simp
    · split
      · simp
      · simp only [List.length_cons]
        omega
theorem usort_len : ∀ l : List Int, (usort l).length ≤ l.length
  | [] => Nat.le_refl _
  | y :: r => by
    have h := usort_len r
    have := insU_len y (usort r)
    show (insU y (usort r)).length ≤ _
    rw [List.length_cons]
    omega
end Y

set_option Elab.async false
set_option linter.all false
set_option maxRecDepth 100000
set_option maxHeartbeats 2000000
/-! what an outcome satisfies -/
namespace Y
section
variable {σ τ l ρ α : Type}
/-- N: behind the end, C: continue, B: break, R: the answer, X: an error -/
structure Po (σ l ρ : Type) where
  N : σ → Prop
  C : l → Prop
  B : l → Prop
  R : ρ → Prop
  X : Nat → Prop
def Sat (P : Po σ l ρ) : Ctl σ l ρ → Prop
  | .bad => False
  | .nx s => P.N s
  | .ct s => P.C s
  | .bk s => P.B s
  | .rt r => P.R r
  | .ex c => P.X c
variable {P : Po σ l ρ} {o o1 o2 : Ctl σ l ρ}
theorem sat_nx {s : σ} (h : P.N s) : Sat P (.nx s) := h
theorem sat_ct {s : l} (h : P.C s) : Sat P (.ct s) := h
theorem sat_bk {s : l} (h : P.B s) : Sat P (.bk s) := h
theorem sat_rt {s : ρ} (h : P.R s) : Sat P (.rt s) := h
theorem sat_ex {c : Nat} (h : P.X c) : Sat P (.ex c) := h
theorem sat_grd {p : Prop} (hp : p) (h : Sat P o) : Sat P (grd p o) := by
  rw [grd_pos hp]
  exact h
theorem sat_lt {v : α} {q : α → Ctl σ l ρ} (h : Sat P (q v)) : Sat P (lt v q) := h
theorem sat_if {b : Bool} (h1 : b = true → Sat P o1) (h2 : b = false → Sat P o2) : Sat P (bif b then o1 else o2) := by
  cases b with
  | true => exact h1 rfl
  | false => exact h2 rfl
theorem sat_t {b : Bool} (hb : b = true) (h : Sat P o1) : Sat P (bif b then o1 else o2) := by
  rw [hb]
  exact h
theorem sat_f {b : Bool} (hb : b = false) (h : Sat P o2) : Sat P (bif b then o1 else o2) := by
  rw [hb]
  exact h
theorem sat_bind {o : Ctl τ l ρ} {q : τ → Ctl σ l ρ} (h : Sat { P with N := fun s => Sat P (q s) } o) : Sat P (o.bind q) := by
  cases o <;> exact h
theorem sat_bindI {o : Ctl τ l ρ} {q : τ → Ctl σ l ρ} (I : τ → Prop) (h : Sat { P with N := I } o) (h2 : ∀ s, I s → Sat P (q s)) : Sat P (o.bind q) := by
  cases o with
  | nx s => exact h2 s h
  | _ => exact h
theorem sat_call {r : Res α} {q : α → Ctl σ l ρ} {a : α} (e : r = .ok a) (h : Sat P (q a)) : Sat P (callC r q) := by
  rw [e]
  exact h
theorem sat_for {xs : List α} {s0 : σ} {f : α → σ → Ctl σ σ ρ} (I : Nat → σ → Prop) (h0 : I 0 s0) (hs : ∀ i x s, xs[i]? = some x → I i s → Sat ⟨I (i + 1), I (i + 1), P.N, P.R, P.X⟩ (f x s)) (he : ∀ s, I xs.length s → P.N s) : Sat P (forC xs s0 f) := by
  induction xs generalizing s0 I with
  | nil => exact he _ h0
  | cons a r ih =>
    have h := hs 0 a s0 rfl h0
    unfold forC
    cases e : f a s0 with
    | bad => rw [e] at h; exact h
    | nx s => rw [e] at h; exact ih (fun i => I (i + 1)) h (fun i x s hx hi => hs (i + 1) x s (by simpa using hx) hi) he
    | ct s => rw [e] at h; exact ih (fun i => I (i + 1)) h (fun i x s hx hi => hs (i + 1) x s (by simpa using hx) hi) he
    | bk s => rw [e] at h; exact h
    | rt r => rw [e] at h; exact h
    | ex c => rw [e] at h; exact h
/-- by what holds of the state at any turn -/
theorem sat_forA {xs : List α} {s0 : σ} {f : α → σ → Ctl σ σ ρ} (I : σ → Prop) (h0 : I s0) (hs : ∀ x ∈ xs, ∀ s, I s → Sat ⟨I, I, P.N, P.R, P.X⟩ (f x s)) (he : ∀ s, I s → P.N s) : Sat P (forC xs s0 f) :=
  sat_for (fun _ => I) h0 (fun i x s hx => hs x (List.mem_of_getElem? hx) s) he
theorem sat_while {f : σ → Ctl σ σ ρ} {s0 : σ} (I : σ → Prop) (μ : σ → Nat) (hs : ∀ s, I s → Sat ⟨fun s' => I s' ∧ μ s' < μ s, fun s' => I s' ∧ μ s' < μ s, P.N, P.R, P.X⟩ (f s)) : ∀ {n : Nat} {s0 : σ}, I s0 → μ s0 < n → Sat P (whileC f n s0)
  | 0, _, _, hn => absurd hn (Nat.not_lt_zero _)
  | n + 1, s0, hi, hn => by
    have h := hs s0 hi
    unfold whileC
    cases e : f s0 with
    | bad => rw [e] at h; exact h
    | nx s => rw [e] at h; exact sat_while (s0 := s0) I μ hs h.1 (by have := h.2; omega)
    | ct s => rw [e] at h; exact sat_while (s0 := s0) I μ hs h.1 (by have := h.2; omega)
    | bk s => rw [e] at h; exact h
    | rt r => rw [e] at h; exact h
    | ex c => rw [e] at h; exact h
theorem run_sat {o : Ctl Unit Unit ρ} {v : ρ} (h : Sat ⟨fun _ => False, fun _ => False, fun _ => False, fun r => r = v, fun _ => False⟩ o) : run o = .ok v := by
  cases o with
  | rt r =>
    have h : r = v := h
    rw [h]
    rfl
  | _ => exact h.elim
/-- what a def answers, by a predicate -/
theorem run_satE {o : Ctl Unit Unit ρ} {R : ρ → Prop} (h : Sat ⟨fun _ => False, fun _ => False, fun _ => False, R, fun _ => False⟩ o) : ∃ v, run o = .ok v ∧ R v := by
  cases o with
  | rt r => exact ⟨r, rfl, h⟩
  | _ => exact h.elim
end
end Y

set_option Elab.async false
set_option linter.all false
set_option maxRecDepth 100000
set_option maxHeartbeats 2000000
/-! sets of texts and of whole numbers that are walked or counted: set(xs) of a list or a tuple, len(..), sorted(..) -/
namespace Y
open PySem PySem.Spec PyProof.Rows L2 Z
/-- each once, in the order of the last ones -/
def onceL {κ : Type} [DecidableEq κ] (l : List κ) (x : κ) : List κ := if x ∈ l then l else x :: l
def onceAll {κ : Type} [DecidableEq κ] (xs : List κ) : List κ := xs.foldl onceL []
theorem onceL_mem {κ : Type} [DecidableEq κ] {l : List κ} {x z : κ} : z ∈ onceL l x ↔ z ∈ l ∨ z = x := by
  unfold onceL
  split
  · rename_i h
    exact ⟨.inl, fun q => q.elim id fun e => e ▸ h⟩
  · rw [List.mem_cons]
    exact Or.comm
theorem onceL_nodup {κ : Type} [DecidableEq κ] {l : List κ} {x : κ} (h : l.Nodup) : (onceL l x).Nodup := by
  unfold onceL
  split
  · exact h
  · rename_i q
    exact List.nodup_cons.mpr ⟨q, h⟩
theorem onceF_mem {κ : Type} [DecidableEq κ] {z : κ} : ∀ {xs l : List κ}, z ∈ xs.foldl onceL l ↔ z ∈ l ∨ z ∈ xs
  | [], l => by simp
  | x :: r, l => by
    rw [List.foldl_cons, onceF_mem, onceL_mem, List.mem_cons, or_assoc]
theorem onceF_nodup {κ : Type} [DecidableEq κ] : ∀ {xs l : List κ}, l.Nodup → (xs.foldl onceL l).Nodup
  | [], _, h => h
  | x :: r, l, h => by
    rw [List.foldl_cons]
    exact onceF_nodup (onceL_nodup h)
theorem onceF_len {κ : Type} [DecidableEq κ] : ∀ {xs l : List κ}, (xs.foldl onceL l).length ≤ l.length + xs.length
  | [], _ => Nat.le_refl _
  | x :: r, l => by
    rw [List.foldl_cons, List.length_cons]
    have h := onceF_len (xs := r) (l := onceL l x)
    have : (onceL l x).length ≤ l.length + 1 := by
      unfold onceL
      split
      · exact Nat.le_succ _
      · exact Nat.le_refl _
    omega
theorem once_mem {κ : Type} [DecidableEq κ] {z : κ} {xs : List κ} : z ∈ onceAll xs ↔ z ∈ xs := onceF_mem.trans ⟨fun h => h.elim (fun q => by cases q) id, .inr⟩
theorem once_nodup {κ : Type} [DecidableEq κ] (xs : List κ) : (onceAll xs).Nodup := onceF_nodup .nil
theorem once_len {κ : Type} [DecidableEq κ] (xs : List κ) : (onceAll xs).length ≤ xs.length := by
  have := onceF_len (xs := xs) (l := [])
  rwa [List.length_nil, Nat.zero_add] at this
section
variable {pr : Program} {wd : World} {κ : Type} [DecidableEq κ] [Nonempty κ] (kd : KeyKind pr wd κ)
noncomputable def keyG (e : Int × Value) : κ := Classical.epsilon fun q => kd.is q e.2 = true
theorem keyG_is {e : Int × Value} {q : κ} (h : kd.is q e.2 = true) : keyG kd e = q := kd.inj e.2 _ _ (Classical.epsilon_spec (p := fun q => kd.is q e.2 = true) ⟨q, h⟩) h
/-- the set at a holds the keys l, each once -/
def SetG (hp : Heap) (a : Addr) (l : List κ) : Prop :=
  ∃ ob rows ep tb, hp.get? a = some ob ∧ ob.ExactSet ∧ ob.data = .set rows ep tb ∧ ElemsOf kd rows.toList ∧ (rows.toList.map (keyG kd)).Perm l ∧ l.Nodup ∧
    rows.size < scanBound ∧ tb.fits rows.size = true ∧ Ris tb.place.toList ∧ (wd.params.followText "set-order" = true ∨ tb.led = true)
variable {kd} {hp hp' : Heap} {a : Addr} {l l' : List κ}
theorem SetG.at (R : SetG kd hp a l) (z : ∀ u, hp.get? a = some u → hp'.get? a = some u) : SetG kd hp' a l := by
  obtain ⟨u, rows, ep, tb, e, more⟩ := R
  exact ⟨u, rows, ep, tb, z u e, more⟩
theorem SetG.lt (R : SetG kd hp a l) : a < hp.objs.size := let ⟨_, _, _, _, e, _⟩ := R; Heap.lt_size e
theorem SetG.ob (R : SetG kd hp a l) : ∃ u, hp.get? a = some u := let ⟨u, _, _, _, e, _⟩ := R; ⟨u, e⟩
theorem SetG.small (R : SetG kd hp a l) : l.length < scanBound := by
  obtain ⟨_, rows, _, _, _, _, _, _, pm, _, hb, _⟩ := R
  rw [← pm.length_eq, List.length_map, Array.length_toList]
  exact hb
variable {A : Around} {E : Value → Shared → Prop} {s : Shared}
theorem setG_tail {gf : Bool → Sem Unit} (hgf : ∀ (b : Bool) (s1 : Shared) (Q1 : Unit → Shared → Prop), Q1 () s1 → wpAny (model pr wd) A (gf b) Q1 E s1)
    {ob : Obj} {rows rows1 : Array (Int × Value)} {ep : Nat} {tb tb2 : SetTable} (hob : s.heap.get? a = some ob) (hx : ob.ExactSet) (hdt : ob.data = .set rows ep tb)
    (el : ElemsOf kd rows1.toList) (pm : (rows1.toList.map (keyG kd)).Perm l) (nd : l.Nodup) (hsz : rows1.size < scanBound) (hfit : tb2.fits rows1.size = true) (hris : Ris tb2.place.toList)
    (hled : wd.params.followText "set-order" = true ∨ tb2.led = true) {dm : Bool} {R : Option Bool → Shared → Prop} (hR : ∀ hp', Heap.SameBut a s.heap hp' → SetG kd hp' a l → R (some true) { s with heap := hp' }) :
    wpAny (model pr wd) A (do
      storeSet a rows1 tb2
      if (!dm && tb2.tooFull) = true then do
          gf (relayAll tb2 rows1 (SetTable.grown rows1.size)).2.2
          storeSet a (relayAll tb2 rows1 (SetTable.grown rows1.size)).1 (relayAll tb2 rows1 (SetTable.grown rows1.size)).2.1
          pure (some true)
        else pure (some true)) R E s := by
  refine wpAny_bind (wpAny_storeSet_of hob hdt ?_ (fits_of_scanBound hsz))
  have hob1 := store_at (es' := rows1) (t' := tb2) hob hdt
  have same1 := Heap.SameBut.update s.heap a (Obj.putSet rows1 tb2)
  by_cases full : (!dm && tb2.tooFull) = true
  · rw [if_pos full]
    have q1 := relayAll_perm tb2 rows1 (SetTable.grown rows1.size)
    have q2 := relayAll_fits tb2 rows1 (SetTable.grown rows1.size)
    have q3 := relayAll_ris tb2 rows1 (SetTable.grown rows1.size)
    have q4 := relayAll_led tb2 rows1 (SetTable.grown rows1.size)
    generalize relayAll tb2 rows1 (SetTable.grown rows1.size) = Y at q1 q2 q3 q4 ⊢
    obtain ⟨rows2, tb3, gv⟩ := Y
    dsimp only at q1 q2 q3 q4 ⊢
    have z : rows2.size < scanBound := by rw [← Array.length_toList, q1.length_eq, Array.length_toList]; exact hsz
    refine wpAny_bind (hgf _ _ _ (wpAny_bind (wpAny_storeSet_of hob1 rfl (wpAny_pure (hR _ (same1.trans (Heap.SameBut.update _ a _)) ?_)) (fits_of_scanBound z))))
    exact ⟨_, rows2, _, tb3, store_at (es' := rows2) (t' := tb3) hob1 rfl, hx, rfl, el.perm q1, (q1.map _).trans pm, nd, z, q2, q3, hled.imp id fun y => by rw [q4]; exact y⟩
  · rw [if_neg full]
    exact wpAny_pure (hR _ same1 ⟨_, rows1, _, tb2, hob1, hx, rfl, el, pm, nd, hsz, hfit, hris, hled⟩)
theorem setG_add {q : κ} {v : Value} {Q : Bool → Shared → Prop} (R : SetG kd s.heap a l) (hv : kd.is q v = true) (hsc : v.scannable = true) (room : l.length + 1 < scanBound)
    (hQ : ∀ b hp', Heap.SameBut a s.heap hp' → SetG kd hp' a (onceL l q) → Q b { s with heap := hp' }) : wpAny (model pr wd) A (setAddHashed a v (kd.hash q)) Q E s := by
  obtain ⟨ob, rows, ep, tb, hob, hx, hdt, el, pm, nd, hb, hfit, hris, hled⟩ := R
  have hsize : rows.size = l.length := by rw [← pm.length_eq, List.length_map, Array.length_toList]
  have mem : q ∈ l ↔ ∃ e ∈ rows.toList, kd.is q e.2 = true := by
    rw [← pm.mem_iff, List.mem_map]
    constructor
    · rintro ⟨e, he, z⟩
      obtain ⟨⟨q0, h0, _⟩, _⟩ := el e he
      have := keyG_is kd h0
      exact ⟨e, he, by rw [← z, this]; exact h0⟩
    · rintro ⟨e, he, z⟩
      exact ⟨e, he, keyG_is kd z⟩
  unfold setAddHashed setAddHashedIn
  refine wpAny_holding (wpAny_bind (wpAny_setState_of hob hdt hfit ?_))
  dsimp only
  rw [byScan_of hsc hb el, if_pos rfl]
  unfold setAddByScan
  refine wpAny_bind (wpAny_bind (wpAny_rule (wpAny_bind (wpAny_setScan_of hv hob hdt hfit el ?_))))
  cases hfi : List.findIdx? (fun e => kd.is q e.2) rows.toList with
  | some j =>
    obtain ⟨hj, pj, _⟩ := List.findIdx?_eq_some_iff_getElem.mp hfi
    have hin : q ∈ l := mem.mpr ⟨_, List.getElem_mem hj, pj⟩
    exact wpAny_pure (wpAny_pure (hQ _ s.heap (Heap.SameBut.refl a s.heap) ⟨ob, rows, ep, tb, hob, hx, hdt, el, by unfold onceL; rw [if_pos hin]; exact pm, onceL_nodup nd, hb, hfit, hris, hled⟩))
  | none =>
    have hout : q ∉ l := fun z => by
      obtain ⟨e, he, y⟩ := mem.mp z
      have := List.findIdx?_eq_none_iff.mp hfi e he
      rw [y] at this
      cases this
    have quiet : ∀ (b : Bool) (s1 : Shared) (Q1 : Unit → Shared → Prop), Q1 () s1 → wpAny (model pr wd) A (match b with | true => rule "set.scan.the-table-gave-way" | false => pure ()) Q1 E s1 :=
      fun b s1 Q1 y => by cases b with
        | true => exact wpAny_rule y
        | false => exact wpAny_pure y
    have z1 := layNew_perm tb rows (kd.hash q) v
    have z2 := layNew_fits tb rows (kd.hash q) v
    have z3 := layNew_ris tb rows (kd.hash q) v hris
    have z4 := layNew_led tb rows (kd.hash q) v
    dsimp only
    generalize layNew tb rows (kd.hash q) v = Y at z1 z2 z3 z4 ⊢
    obtain ⟨rows1, tb1, dm, gv⟩ := Y
    dsimp only at z1 z2 z3 z4 ⊢
    rw [Array.toList_push] at z1
    have el1 : ElemsOf kd rows1.toList := (el.push hv hsc).perm z1
    have pm1 : (rows1.toList.map (keyG kd)).Perm (onceL l q) := by
      unfold onceL
      rw [if_neg hout]
      refine (z1.map _).trans ?_
      rw [List.map_append, List.map_cons, List.map_nil, keyG_is kd (e := (kd.hash q, v)) hv]
      exact (List.perm_append_singleton _ _).trans (.cons _ pm)
    have hs1 : rows1.size < scanBound := by
      rw [← Array.length_toList, z1.length_eq, List.length_append, Array.length_toList, hsize]
      exact room
    have led1 : wd.params.followText "set-order" = true ∨ tb1.led = true := hled.imp id fun y => by rw [z4]; exact y
    refine wpAny_bind (quiet _ _ _ ?_)
    split
    · refine wpAny_bind ?_
      rw [hashByValue_scannable 8 hsc]
      refine wpAny_pure (setG_tail (l := onceL l q) quiet hob hx hdt el1 pm1 (onceL_nodup nd) hs1 ?_ ?_ ?_ fun hp' sb G => wpAny_pure (hQ _ hp' sb G))
      · split
        · exact SetTable.fits_plain_off z2
        · exact z2
      · split
        · exact z3
        · exact z3
      · split
        · exact led1
        · exact led1
    · refine wpAny_bind (wpAny_pure ?_)
      rw [if_pos rfl]
      exact setG_tail (l := onceL l q) quiet hob hx hdt el1 pm1 (onceL_nodup nd) hs1 z2 z3 led1 fun hp' sb G => wpAny_pure (hQ _ hp' sb G)

/-! ### set(xs) -/
theorem setG_loop {I : Addr} {fp wr : List Addr} {Gn : Array GenState → Array GenState → Prop} {n : Nat} {Pv : Nat → Value → Prop} {St : Nat → Shared → Prop} {R : Result → Shared → Prop}
    (W : WalksS pr wd A.in1 I fp wr Gn n Pv St) {a : Addr} (ha : a ∉ fp) {xs : List κ} (hn : n = xs.length) (hb : xs.length + 1 < scanBound)
    (hv : ∀ i v, Pv i v → ∃ q, xs[i]? = some q ∧ kd.is q v = true ∧ v.scannable = true) :
    ∀ (d i : Nat) (s : Shared), n - i = d → i ≤ n → St i s → SetG kd s.heap a ((xs.take i).foldl onceL []) →
      (∀ s', Moved (a :: wr) Gn s s' → SetG kd s'.heap a (onceAll xs) → R (.ok (.ret .none)) s') → codeAny (model pr wd) A (.builtin "set.update.loop" ⟨[.ref a, .ref I], []⟩) R s := by
  have haw : a ∉ wr := fun z => ha (W.sub _ z)
  have wide : ∀ b ∈ wr, b ∈ a :: wr := fun b z => List.mem_cons_of_mem _ z
  intro d
  induction d with
  | zero =>
    intro i s hd hi hst hG hR
    obtain rfl : i = n := by omega
    refine codeAny_builtin F.entry_set_update_loop ?_
    rw [Around.under_plainId F.plain_set_update_loop _]
    show wpAny _ A.in1 (pyNext (.ref I) >>= _) _ _ _
    refine wpAny_bind (W.done s _ _ hst fun s' mv => ?_)
    rw [List.take_of_length_le (by omega)] at hG
    exact wpAny_pure (hR s' (mv.mono wide) (hG.at fun o e => mv.heap a o haw e))
  | succ d ih =>
    intro i s hd hi hst hG hR
    refine codeAny_builtin F.entry_set_update_loop ?_
    rw [Around.under_plainId F.plain_set_update_loop _]
    show wpAny _ A.in1 (pyNext (.ref I) >>= _) _ _ _
    refine wpAny_bind (W.item i s _ _ (by omega) hst fun v s' hP hst' mv => ?_)
    obtain ⟨q, hq, hkd, hsc⟩ := hv i v hP
    have hG' := hG.at (hp' := s'.heap) fun o e => mv.heap a o haw e
    show wpAny _ A.in1 (holding [v] (setAdd a v) >>= _) _ _ _
    refine wpAny_bind (wpAny_holding ?_)
    unfold setAdd
    have hl : ((xs.take i).foldl onceL []).length + 1 < scanBound := by
      have := once_len (xs.take i)
      have : (xs.take i).length ≤ xs.length := by rw [List.length_take]; omega
      show (onceAll (xs.take i)).length + 1 < _
      omega
    refine wpAny_holding (wpAny_bind (kd.pyHash hkd (setG_add (s := { s' with toks := s'.toks + 1 }) hG' hkd hsc hl fun b hp sb G => ?_)))
    have G2 : SetG kd hp a ((xs.take (i + 1)).foldl onceL []) := by
      rw [List.take_add_one, hq, Option.toList_some, List.foldl_append]
      exact G
    refine wpAny_pure ⟨plainId_quiet F.plain_set_update_loop _, ih (i + 1) _ (by omega) (by omega) (W.frame _ s' _ _ hst' (Nat.le_succ _) fun c hc o e => ?_) G2 fun s2 mv2 G3 => hR s2 (Moved.trans W.gtrans ((mv.mono wide).then_heap (Nat.le_succ _) fun c o hc e => ?_) mv2) G3⟩
    · exact (sb.2 c fun z : c = a => ha (z ▸ hc)).trans e
    · exact (sb.2 c fun z : c = a => hc (z ▸ List.mem_cons_self)).trans e
def fresh0 (wd : World) : Obj := { cls := .type "set", dict := none, data := .set #[] 0 (.fresh 0 0 (!wd.params.followText "set-order")) }
theorem setG_new (e : hp.get? a = some (fresh0 wd)) : SetG kd hp a [] :=
  ⟨_, #[], 0, _, e, ⟨rfl, rfl, rfl⟩, rfl, (fun e he => by simp at he), .nil, .nil, by decide, by rfl, List.Pairwise.nil, by
    show _ ∨ (!wd.params.followText "set-order") = true
    cases wd.params.followText "set-order" with
    | true => exact .inl rfl
    | false => exact .inr rfl⟩

theorem mk_set_lst {src : Addr} {vals : Array Value} {xs : List κ} {Q : Value → Shared → Prop} (calm : A.handled = none) (hL : s.heap.IsList src vals) (hlen : vals.size = xs.length) (hb : xs.length + 1 < scanBound)
    (hv : ∀ (i : Nat) v, vals[i]? = some v → ∃ q, xs[i]? = some q ∧ kd.is q v = true ∧ v.scannable = true)
    (h : ∀ (hp : Heap) (tk : Nat), SetG kd hp s.heap.objs.size (onceAll xs) → (∀ b o, s.heap.get? b = some o → hp.get? b = some o) → Q (.ref s.heap.objs.size) { s with heap := hp, toks := tk }) :
    wpAny (model pr wd) A (call (.type "set") [.ref src]) Q E s := by
  obtain ⟨mc, mt, mro⟩ := F.called_set.mro
  have f1 := F.called_set.made
  have f2 := F.called_set.sub
  refine wpAny_call (codeAny_of_tree (show wpAny _ _ (callAny (.type "set") _) _ _ _ from wpAny_pure ⟨Code.quiet_builtin _ (by decide +kernel), codeAny_builtin F.entry_type_call ?_⟩))
  rw [Around.under_plain (weight_type_call_type "set" [.ref src] []) rfl]
  have f3 := F.called_set.notType
  have f4 := F.called_set.canCreate
  have f5 := F.typeCall_set_1 (.ref src)
  repeat (any_goals (first | assumption | wp_step))
  refine codeAny_mono (code_set_led1 (.ref src) (E := E) (Q₁ := fun r s1 => r = .ref s.heap.objs.size ∧ s1 = { s with heap := s.heap.push (fresh0 wd) }) ⟨rfl, rfl⟩) fun r s1 hr => ?_
  cases r with
  | error e => exact hr
  | ok fl =>
    cases fl with
    | ret ob =>
      obtain ⟨rfl, rfl⟩ := hr
      have n1 : (s.heap.push (fresh0 wd)).get? s.heap.objs.size = some (fresh0 wd) := Heap.get?_push_size _ rfl
      have n2 : Shared.TypeIs { s with heap := s.heap.push (fresh0 wd) } (.ref s.heap.objs.size) "set" := ⟨_, n1, rfl⟩
      have f6 := F.called_set.init.lookup
      have f7 := F.called_set.init.bind (.ref s.heap.objs.size)
      repeat (any_goals (first | assumption | wp_step))
      refine codeAny_mono (codeAny_call_builtin (R := wants (fun r s2 => r = .none ∧ ∃ hp tk, s2 = { s with heap := hp, toks := tk } ∧ SetG kd hp s.heap.objs.size (onceAll xs) ∧ (∀ b o, s.heap.get? b = some o → hp.get? b = some o)) E)
        F.called_set.init.plain F.entry_set_init (check_set_init_1 n2 ?_)) fun r2 s2 hr2 => ?_
      · obtain ⟨⟨c0, d0, t0, sl0⟩, g1, g2, nn, g3⟩ := hL
        dsimp only at g2 g3
        subst g2
        subst g3
        have old : (s.heap.push (fresh0 wd)).get? src = some { cls := .type "list", dict := d0, data := .seq vals nn, slots := sl0 } := Heap.get?_push_of_some _ g1
        have u1 := F.sub_list_set
        have u2 := F.sub_list_frozenset
        have u3 : (Value.type "list" == Value.type "dict") = false := by decide
        have L1 : (s.heap.push (fresh0 wd)).IsList src vals := ⟨_, old, rfl, nn, rfl⟩
        unfold Builtin.«set.__init__» noKeywords Builtin.Frozenset.updateFrom
        generalize hIt : pyIter = It
        wp_walk
        subst hIt
        refine wpAny_pyIter_list L1 (wpAny_bind (wpAny_runValue ?_))
        have lt0 : src < s.heap.objs.size := Heap.lt_size g1
        have hh : A.in1.in1.in1.handled = none := by simp [calm]
        have sz1 : (s.heap.push (fresh0 wd)).objs.size = s.heap.objs.size + 1 := Heap.size_push ..
        have ne1 : src ≠ (s.heap.push (fresh0 wd)).objs.size := by rw [sz1]; exact Nat.ne_of_lt (Nat.lt_succ_of_lt lt0)
        have out1 : s.heap.objs.size ∉ [(s.heap.push (fresh0 wd)).objs.size, src] := by
          rw [sz1]
          intro z
          rcases List.mem_cons.mp z with z | z
          · exact Nat.ne_of_lt (Nat.lt_succ_self _) z
          · exact Nat.ne_of_gt lt0 (List.mem_singleton.mp z)
        refine setG_loop (kd := kd) ((Walks.list hh _ src ne1 vals).toS) (a := s.heap.objs.size) out1 hlen hb hv (vals.size - 0) 0 _ (by omega) (Nat.zero_le _) ⟨⟨_, Heap.get?_push_size _ rfl, rfl, rfl⟩, (L1.push _)⟩ ?_ ?_
        · exact setG_new (Heap.get?_push_of_some _ n1)
        · intro s3 mv G
          obtain ⟨hp, gn, dr, tk, os⟩ := s3
          have z1 : gn = s.gens := mv.gens
          have z2 : dr = s.drawn := mv.drawn
          have z3 : os = s.os := mv.os
          subst z1
          subst z2
          subst z3
          refine wpAny_pure (show wpAny _ _ (ret Value.none) _ _ _ from wpAny_pure ⟨rfl, hp, tk, rfl, G, fun b o e => ?_⟩)
          have lt1 : b < s.heap.objs.size := Heap.lt_size e
          refine mv.heap b o (fun z => ?_) (Heap.get?_push_of_some _ (Heap.get?_push_of_some _ e))
          rcases List.mem_cons.mp z with z | z
          · exact Nat.ne_of_lt lt1 z
          · have z := List.mem_singleton.mp z
            rw [sz1] at z
            exact Nat.ne_of_lt (Nat.lt_succ_of_lt lt1) z
      · cases r2 with
        | error e => exact hr2
        | ok fl2 =>
          cases fl2 with
          | ret r =>
            obtain ⟨rfl, hp, tk, rfl, G, keep⟩ := hr2
            repeat (any_goals (first | assumption | wp_step))
            exact h _ _ G keep
          | _ => exact hr2.elim
    | _ => exact hr.elim

theorem mk_set_tup {src : Addr} {vals : Array Value} {xs : List κ} {Q : Value → Shared → Prop} (calm : A.handled = none) (hL : s.heap.IsTuple src vals) (hlen : vals.size = xs.length) (hb : xs.length + 1 < scanBound)
    (hv : ∀ (i : Nat) v, vals[i]? = some v → ∃ q, xs[i]? = some q ∧ kd.is q v = true ∧ v.scannable = true)
    (h : ∀ (hp : Heap) (tk : Nat), SetG kd hp s.heap.objs.size (onceAll xs) → (∀ b o, s.heap.get? b = some o → hp.get? b = some o) → Q (.ref s.heap.objs.size) { s with heap := hp, toks := tk }) :
    wpAny (model pr wd) A (call (.type "set") [.ref src]) Q E s := by
  obtain ⟨mc, mt, mro⟩ := F.called_set.mro
  have f1 := F.called_set.made
  have f2 := F.called_set.sub
  refine wpAny_call (codeAny_of_tree (show wpAny _ _ (callAny (.type "set") _) _ _ _ from wpAny_pure ⟨Code.quiet_builtin _ (by decide +kernel), codeAny_builtin F.entry_type_call ?_⟩))
  rw [Around.under_plain (weight_type_call_type "set" [.ref src] []) rfl]
  have f3 := F.called_set.notType
  have f4 := F.called_set.canCreate
  have f5 := F.typeCall_set_1 (.ref src)
  repeat (any_goals (first | assumption | wp_step))
  refine codeAny_mono (code_set_led1 (.ref src) (E := E) (Q₁ := fun r s1 => r = .ref s.heap.objs.size ∧ s1 = { s with heap := s.heap.push (fresh0 wd) }) ⟨rfl, rfl⟩) fun r s1 hr => ?_
  cases r with
  | error e => exact hr
  | ok fl =>
    cases fl with
    | ret ob =>
      obtain ⟨rfl, rfl⟩ := hr
      have n1 : (s.heap.push (fresh0 wd)).get? s.heap.objs.size = some (fresh0 wd) := Heap.get?_push_size _ rfl
      have n2 : Shared.TypeIs { s with heap := s.heap.push (fresh0 wd) } (.ref s.heap.objs.size) "set" := ⟨_, n1, rfl⟩
      have f6 := F.called_set.init.lookup
      have f7 := F.called_set.init.bind (.ref s.heap.objs.size)
      repeat (any_goals (first | assumption | wp_step))
      refine codeAny_mono (codeAny_call_builtin (R := wants (fun r s2 => r = .none ∧ ∃ hp tk, s2 = { s with heap := hp, toks := tk } ∧ SetG kd hp s.heap.objs.size (onceAll xs) ∧ (∀ b o, s.heap.get? b = some o → hp.get? b = some o)) E)
        F.called_set.init.plain F.entry_set_init (check_set_init_1 n2 ?_)) fun r2 s2 hr2 => ?_
      · obtain ⟨⟨c0, d0, t0, sl0⟩, g1, g2, nn, g3⟩ := hL
        dsimp only at g2 g3
        subst g2
        subst g3
        have old : (s.heap.push (fresh0 wd)).get? src = some { cls := .type "tuple", dict := d0, data := .seq vals nn, slots := sl0 } := Heap.get?_push_of_some _ g1
        have u1 := F.sub_tuple_set
        have u2 := F.sub_tuple_frozenset
        have u3 : (Value.type "tuple" == Value.type "dict") = false := by decide
        have L1 : (s.heap.push (fresh0 wd)).IsTuple src vals := ⟨_, old, rfl, nn, rfl⟩
        unfold Builtin.«set.__init__» noKeywords Builtin.Frozenset.updateFrom
        generalize hIt : pyIter = It
        wp_walk
        subst hIt
        refine wpAny_pyIter_tuple L1 (wpAny_bind (wpAny_runValue ?_))
        have lt0 : src < s.heap.objs.size := Heap.lt_size g1
        have hh : A.in1.in1.in1.handled = none := by simp [calm]
        have sz1 : (s.heap.push (fresh0 wd)).objs.size = s.heap.objs.size + 1 := Heap.size_push ..
        have ne1 : src ≠ (s.heap.push (fresh0 wd)).objs.size := by rw [sz1]; exact Nat.ne_of_lt (Nat.lt_succ_of_lt lt0)
        have out1 : s.heap.objs.size ∉ [(s.heap.push (fresh0 wd)).objs.size, src] := by
          rw [sz1]
          intro z
          rcases List.mem_cons.mp z with z | z
          · exact Nat.ne_of_lt (Nat.lt_succ_self _) z
          · exact Nat.ne_of_gt lt0 (List.mem_singleton.mp z)
        refine setG_loop (kd := kd) ((Walks.tuple hh _ src ne1 vals).toS) (a := s.heap.objs.size) out1 hlen hb hv (vals.size - 0) 0 _ (by omega) (Nat.zero_le _) ⟨⟨_, Heap.get?_push_size _ rfl, rfl, rfl⟩, (L1.push _)⟩ ?_ ?_
        · exact setG_new (Heap.get?_push_of_some _ n1)
        · intro s3 mv G
          obtain ⟨hp, gn, dr, tk, os⟩ := s3
          have z1 : gn = s.gens := mv.gens
          have z2 : dr = s.drawn := mv.drawn
          have z3 : os = s.os := mv.os
          subst z1
          subst z2
          subst z3
          refine wpAny_pure (show wpAny _ _ (ret Value.none) _ _ _ from wpAny_pure ⟨rfl, hp, tk, rfl, G, fun b o e => ?_⟩)
          have lt1 : b < s.heap.objs.size := Heap.lt_size e
          refine mv.heap b o (fun z => ?_) (Heap.get?_push_of_some _ (Heap.get?_push_of_some _ e))
          rcases List.mem_cons.mp z with z | z
          · exact Nat.ne_of_lt lt1 z
          · have z := List.mem_singleton.mp z
            rw [sz1] at z
            exact Nat.ne_of_lt (Nat.lt_succ_of_lt lt1) z
      · cases r2 with
        | error e => exact hr2
        | ok fl2 =>
          cases fl2 with
          | ret r =>
            obtain ⟨rfl, hp, tk, rfl, G, keep⟩ := hr2
            repeat (any_goals (first | assumption | wp_step))
            exact h _ _ G keep
          | _ => exact hr2.elim
    | _ => exact hr.elim

/-! ### sorted(..), len(..) of such a set -/
noncomputable def keyV (kd : KeyKind pr wd κ) (v : Value) : κ := Classical.epsilon fun q => kd.is q v = true
theorem setG_vals (R : SetG kd s.heap a l) (calm : A.handled = none) {Q : List Value → Shared → Prop}
    (hQ : ∀ s' vs, (∀ b o, s.heap.get? b = some o → s'.heap.get? b = some o) → s.heap.objs.size ≤ s'.heap.objs.size → s'.gens = s.gens → s'.os = s.os → (vs.map (keyV kd)).Perm l → (∀ v ∈ vs, ∃ q, kd.is q v = true) → Q vs s') :
    wpAny (model pr wd) A (collect (.ref a)) Q E s := by
  obtain ⟨ob, rows, ep, tb, hob, hx, hdt, el, pm, nd, hb, hfit, hris, hled⟩ := R
  refine collect_set (A := A) calm ⟨ob, hob, hx.1, hdt⟩ hfit hb hris hled fun s' vs k1 k2 k3 k4 pv => hQ s' vs k1 k2 k3 k4 ?_ fun v hv => ?_
  · have := pv.map (keyV kd)
    rw [List.map_map] at this
    exact this.trans pm
  · obtain ⟨e, he, rfl⟩ := List.mem_map.mp (pv.mem_iff.mp hv)
    obtain ⟨⟨q, h0, _⟩, _⟩ := el e he
    exact ⟨q, h0⟩
theorem keyV_is {v : Value} (h : ∃ q, kd.is q v = true) : kd.is (keyV kd v) v = true := Classical.epsilon_spec h
/-- sorted of a set, by a rule for list.sort -/
theorem setG_sorted (R : SetG kd s.heap a l) (calm : A.handled = none) {up : List κ → Prop} {Q : Value → Shared → Prop}
    (hs : ∀ (s1 : Shared) (b : Addr) (vs : List Value) (n : Nat) (Rf : PySem.Fin → Shared → Prop), s1.heap.get? b = some (seqObj "list" vs.toArray n) → (∀ v ∈ vs, ∃ q, kd.is q v = true) → vs.length ≤ sizeLine →
      (∀ (out : Array Value) (ys : List κ), Paired (fun v q => kd.is q v = true) out.toList ys → ys.Perm (vs.map (keyV kd)) → up ys → Rf (.done (.ret .none)) { s1 with heap := sortedHeap s1.heap b vs out }) →
      wpAny (model pr wd) A.in1.in1 (Builtin.«list.sort» ⟨[.ref b], []⟩) Rf E s1)
    (hQ : ∀ s' p (out : Array Value) (c : Nat) (ys : List κ), (∀ b o, s.heap.get? b = some o → s'.heap.get? b = some o) → s'.gens = s.gens → s'.os = s.os → s.heap.objs.size ≤ p →
      s'.heap.get? p = some (seqObj "list" out c) → Paired (fun v q => kd.is q v = true) out.toList ys → ys.Perm l → up ys → Q (.ref p) s') :
    wpAny (model pr wd) A (call (.builtin "sorted") [.ref a]) Q E s := by
  have small := R.small
  refine Calls.call_function_entry kind_sorted plain_sorted entry_sorted (args_sorted1 _) (show wpAny _ _ (Builtin.«sorted» _) _ _ _ from ?_)
  unfold Builtin.«sorted»
  refine wpAny_bind (m := checkCount "sorted" 1 1 _) (wpAny_pure (wpAny_bind (setG_vals R (A := A.in1) calm fun s1 vs k1 k2 k3 k4 pm hv => ?_)))
  have hlen : vs.length ≤ sizeLine := by
    have := pm.length_eq
    rw [List.length_map] at this
    rw [this]
    exact fits_of_scanBound small
  refine wpAny_bind (wpAny_newList ?_ hlen)
  have new1 : (s1.heap.push (seqObj "list" vs.toArray 0)).get? s1.heap.objs.size = some (seqObj "list" vs.toArray 0) := Heap.get?_push_size _ rfl
  refine wpAny_bind (wpAny_holding (wpAny_call_entry slot_list_sort ⟨_, new1, rfl⟩ entry_list_sort (hs _ _ vs _ _ new1 hv hlen fun out ys y1 y2 y3 => ⟨_, rfl, ?_⟩) (args_list_sort _)))
  obtain ⟨c, hc⟩ := sortedHeap_at (vs := vs) (out := out) new1
  refine wpAny_pure ⟨_, rfl, hQ _ s1.heap.objs.size out c ys (fun b o e => ?_) k3 k4 k2 hc y1 (y2.trans pm) y3⟩
  have e1 := k1 b o e
  have lt1 := Heap.lt_size e1
  exact (sortedHeap_old (Nat.ne_of_lt lt1) (by rw [size_push']; exact Nat.lt_succ_of_lt lt1)).trans (Heap.get?_push_of_some _ e1)
end
end Y

set_option Elab.async false
set_option linter.all false
set_option maxRecDepth 100000
set_option maxHeartbeats 2000000
/-! sorted texts; set(..) as a call -/
namespace Y
open PySem PySem.Spec PyProof.Rows L2 Z
def leS (a b : Str) : Prop := a.cps.toList ≤ b.cps.toList
instance : DecidableRel leS := fun a b => inferInstanceAs (Decidable (a.cps.toList ≤ b.cps.toList))
theorem leS_trans {a b c : Str} (h : leS a b) (h2 : leS b c) : leS a c := List.le_trans h h2
theorem leS_total (a b : Str) : leS a b ∨ leS b a := List.le_total _ _
theorem str_eq {a b : Str} (h : a.cps.toList = b.cps.toList) : a = b := by
  cases a
  cases b
  congr
  exact Array.toList_inj.mp h
theorem leS_anti {a b : Str} (h : leS a b) (h2 : leS b a) : a = b := str_eq (List.le_antisymm h h2)
def sortS (xs : List Str) : List Str := xs.mergeSort fun a b => decide (leS a b)
theorem sortS_perm (xs : List Str) : (sortS xs).Perm xs := List.mergeSort_perm _ _
theorem sortS_asc (xs : List Str) : (sortS xs).Pairwise leS := by
  have h := List.pairwise_mergeSort (le := fun a b : Str => decide (leS a b)) (fun a b c h1 h2 => decide_eq_true (leS_trans (of_decide_eq_true h1) (of_decide_eq_true h2))) (fun a b => by
    rcases leS_total a b with h | h
    · simp [h]
    · simp [h]) xs
  exact h.imp fun h => of_decide_eq_true h
theorem sortS_uniq {xs ys : List Str} (hp : ys.Perm xs) (hs : ys.Pairwise leS) : ys = sortS xs :=
  List.Perm.eq_of_pairwise (fun _ _ _ _ h h2 => leS_anti h h2) hs (sortS_asc xs) (hp.trans (sortS_perm xs).symm)
theorem rising_pair : ∀ {p : Str} {l : List Str}, risingS p l = true → (p :: l).Pairwise leS
  | p, [], _ => List.pairwise_singleton _ _
  | p, x :: r, h => by
    have h : (!ltCps x.cps.toList p.cps.toList && risingS x r) = true := h
    rw [Bool.and_eq_true, Bool.not_eq_true', ltCps_eq, decide_eq_false_iff_not] at h
    have ih := rising_pair h.2
    refine List.pairwise_cons.mpr ⟨fun y hy => ?_, ih⟩
    have px : leS p x := h.1
    rcases List.mem_cons.mp hy with e | e
    · rw [e]
      exact px
    · exact leS_trans px ((List.pairwise_cons.mp ih).1 y e)
theorem sortedS_pair : ∀ {l : List Str}, sortedS l = true → l.Pairwise leS
  | [], _ => .nil
  | _ :: _, h => rising_pair h
/-- each text once, ascending -/
def usortS (xs : List Str) : List Str := sortS (onceAll xs)
theorem usortS_mem {xs : List Str} {z : Str} : z ∈ usortS xs ↔ z ∈ xs := (sortS_perm _).mem_iff.trans once_mem
theorem usortS_nodup (xs : List Str) : (usortS xs).Nodup := (sortS_perm _).nodup_iff.mpr (once_nodup xs)
theorem usortS_of {xs ys : List Str} (hn : ys.Nodup) (hm : ∀ z, z ∈ ys ↔ z ∈ xs) : sortS ys = usortS xs :=
  (sortS_uniq ((sortS_perm _).trans ((List.perm_ext_iff_of_nodup hn (once_nodup xs)).mpr fun z => (hm z).trans once_mem.symm)) (sortS_asc _))
theorem usort_of {xs ys : List Int} (h : ys.Perm (onceAll xs)) (h2 : ys.Pairwise (· ≤ ·)) : ys = usort xs := by
  have hn : ys.Nodup := h.nodup_iff.mpr (once_nodup xs)
  have hlt : ys.Pairwise (· < ·) := (h2.and hn).imp fun {a b} z => Int.lt_iff_le_and_ne.mpr z
  exact asc_uniq hlt (usort_asc xs) fun z => h.mem_iff.trans (once_mem.trans usort_mem.symm)
/-! ### the set as an object -/
section
variable {κ : Type} [DecidableEq κ] [Nonempty κ]
def SetGO (P : Program) (w : World) (kd : KeyKind P w κ) (a : Addr) (l : List κ) : HO := .ext fun h => SetG kd h a l
variable {P : Program} {w : World} {kd : KeyKind P w κ}
theorem setGO_new {H : Hp} {h : Heap} {a : Addr} {l : List κ} (R : SetG kd h a l) : ObjOk P w H h a (SetGO P w kd a l) := ⟨R, R.ob, fun _ _ q k => q.at k⟩
theorem setGO_get {κ : Type} [DecidableEq κ] [Nonempty κ] {X : Cx} {kd : KeyKind X.prog X.w κ} {pins : List (Addr × Obj)} {σ : L2.St} {H : Hp} {s : Shared} {a : Addr} {l : List κ} (I : Inv X pins σ H s) (ha : H a = some (SetGO X.prog X.w kd a l)) : SetG kd s.heap a l := (I.hok a _ ha).1
end
/-- set(xs), a list or a tuple of texts, of whole numbers -/
def rSetY (K : PySem.W.Frag) (P : Program) (w : World) : List V → Hp → VK → Prop := fun vs H Q => ∃ a, vs = [V.ref a] ∧
  ((∃ xs : List Str, (SqL K H a (xs.map V.str) ∨ SqT K H a (xs.map V.str)) ∧ xs.length + 1 < scanBound ∧ ∀ p, H p = none → Q (.ref p) (upd H p (SetGO P w (PySem.strKind P w) p (onceAll xs)))) ∨
   (∃ xs : List Int, (SqL K H a (xs.map V.int) ∨ SqT K H a (xs.map V.int)) ∧ xs.length + 1 < scanBound ∧ ∀ p, H p = none → Q (.ref p) (upd H p (SetGO P w (PySem.intKind P w) p (onceAll xs)))))
theorem strs_at : ∀ {vs : List Value} {xs : List Str}, StrsAre vs xs → ∀ (i : Nat) v, vs[i]? = some v → ∃ q, xs[i]? = some q ∧ (∃ t, v = .str q t)
  | _, _, .nil, i, v, h => by simp at h
  | _, _, .cons x t r, 0, v, h => by
    simp only [List.getElem?_cons_zero, Option.some.injEq] at h
    exact ⟨x, rfl, t, h.symm⟩
  | _, _, .cons x t r, i + 1, v, h => by
    rw [List.getElem?_cons_succ] at h ⊢
    exact strs_at r i v h
theorem ints_at : ∀ {vs : List Value} {xs : List Int}, IntsAre vs xs → ∀ (i : Nat) v, vs[i]? = some v → ∃ q, xs[i]? = some q ∧ (∃ t, v = .int q t)
  | _, _, .nil, i, v, h => by simp at h
  | _, _, .cons x t r, 0, v, h => by
    simp only [List.getElem?_cons_zero, Option.some.injEq] at h
    exact ⟨x, rfl, t, h.symm⟩
  | _, _, .cons x t r, i + 1, v, h => by
    rw [List.getElem?_cons_succ] at h ⊢
    exact ints_at r i v h
theorem is_strY {P : Program} {w : World} (q : Str) (t : Tok) : (PySem.strKind P w).is q (.str q t) = true := by
  show Value.isStrOf q (.str q t) = true
  simp [Value.isStrOf]
instance : Nonempty Str := ⟨⟨#[]⟩⟩
theorem cr_setY {X : Cx} (hc : X.calm = true) : CallR X (.type "set") (rSetY X.K X.prog X.w) := by
  intro pins s σ H vs us Q I r h
  obtain ⟨a, rfl, h⟩ := h
  rw [Vals.ref1 r]
  have free : H s.heap.objs.size = none := I.hok.fresh (Nat.le_refl _)
  rcases h with ⟨xs, hs, hz, q⟩ | ⟨xs, hs, hz, q⟩
  · rcases hs with hs | hs
    · obtain ⟨its, rv, hl, _⟩ := I.list hs
      have rv := rv.strs
      refine mk_set_lst (kd := PySem.strKind X.prog X.w) (xs := xs) (I.ok.hd hc) hl.isList (by rw [List.size_toArray]; exact rv.length) hz (fun i v e => ?_) fun hp tk G keep => ⟨.ref _, _, I.laid (t' := tk) keep (Nat.le_refl _) (setGO_new G), rfl, q _ free⟩
      obtain ⟨q, e1, t, rfl⟩ := strs_at rv i v (by simpa using e)
      exact ⟨q, e1, is_strY q t, rfl⟩
    · obtain ⟨its, rv, hl, _⟩ := I.tuple hs
      have rv := rv.strs
      refine mk_set_tup (kd := PySem.strKind X.prog X.w) (xs := xs) (I.ok.hd hc) hl (by rw [List.size_toArray]; exact rv.length) hz (fun i v e => ?_) fun hp tk G keep => ⟨.ref _, _, I.laid (t' := tk) keep (Nat.le_refl _) (setGO_new G), rfl, q _ free⟩
      obtain ⟨q, e1, t, rfl⟩ := strs_at rv i v (by simpa using e)
      exact ⟨q, e1, is_strY q t, rfl⟩
  · rcases hs with hs | hs
    · obtain ⟨its, rv, hl, _⟩ := I.list hs
      have rv := rv.ints
      refine mk_set_lst (kd := PySem.intKind X.prog X.w) (xs := xs) (I.ok.hd hc) hl.isList (by rw [List.size_toArray]; exact rv.length) hz (fun i v e => ?_) fun hp tk G keep => ⟨.ref _, _, I.laid (t' := tk) keep (Nat.le_refl _) (setGO_new G), rfl, q _ free⟩
      obtain ⟨q, e1, t, rfl⟩ := ints_at rv i v (by simpa using e)
      exact ⟨q, e1, intKind_is _ _ q t, rfl⟩
    · obtain ⟨its, rv, hl, _⟩ := I.tuple hs
      have rv := rv.ints
      refine mk_set_tup (kd := PySem.intKind X.prog X.w) (xs := xs) (I.ok.hd hc) hl (by rw [List.size_toArray]; exact rv.length) hz (fun i v e => ?_) fun hp tk G keep => ⟨.ref _, _, I.laid (t' := tk) keep (Nat.le_refl _) (setGO_new G), rfl, q _ free⟩
      obtain ⟨q, e1, t, rfl⟩ := ints_at rv i v (by simpa using e)
      exact ⟨q, e1, intKind_is _ _ q t, rfl⟩
/-- sorted(set) -/
def rSortSetY (P : Program) (w : World) : List V → Hp → VK → Prop := fun vs H Q => ∃ a, vs = [V.ref a] ∧
  ((∃ l : List Str, H a = some (SetGO P w (PySem.strKind P w) a l) ∧ ∀ p, H p = none → Q (.ref p) (upd H p (.lst ((sortS l).map V.str)))) ∨
   (∃ l : List Int, H a = some (SetGO P w (PySem.intKind P w) a l) ∧ ∀ p, H p = none → Q (.ref p) (upd H p (.lst ((sortI l).map V.int)))))
theorem pair_strs {P : Program} {w : World} : ∀ {vs : List Value} {ys : List Str}, Paired (fun v q => (PySem.strKind P w).is q v = true) vs ys → StrsAre vs ys
  | _, _, .nil => .nil
  | _, _, .cons h r => by
    obtain ⟨t, rfl⟩ := Value.isStrOf_shape h
    exact .cons _ t (pair_strs r)
theorem pair_ints {P : Program} {w : World} : ∀ {vs : List Value} {ys : List Int}, Paired (fun v q => (PySem.intKind P w).is q v = true) vs ys → IntsAre vs ys
  | _, _, .nil => .nil
  | _, _, .cons h r => by
    obtain ⟨t, rfl⟩ := Value.isInt_shape h
    exact .cons _ t (pair_ints r)
theorem strs_pair {P : Program} {w : World} : ∀ {vs : List Value} {ys : List Str}, StrsAre vs ys → Paired (fun v q => (PySem.strKind P w).is q v = true) vs ys
  | _, _, .nil => .nil
  | _, _, .cons q t r => .cons (is_strY q t) (strs_pair r)
theorem ints_pair {P : Program} {w : World} : ∀ {vs : List Value} {ys : List Int}, IntsAre vs ys → Paired (fun v q => (PySem.intKind P w).is q v = true) vs ys
  | _, _, .nil => .nil
  | _, _, .cons q t r => .cons (intKind_is _ _ q t) (ints_pair r)
section
variable {κ : Type} [DecidableEq κ] [Nonempty κ] {P : Program} {w : World} {kd : KeyKind P w κ}
theorem keyV_pair : ∀ {vs : List Value}, (∀ v ∈ vs, ∃ q, kd.is q v = true) → Paired (fun v q => kd.is q v = true) vs (vs.map (keyV kd))
  | [], _ => .nil
  | v :: r, h => .cons (keyV_is (h v List.mem_cons_self)) (keyV_pair fun u hu => h u (List.mem_cons_of_mem _ hu))
end
theorem cr_sortSetY {X : Cx} (hc : X.calm = true) : CallR X (.builtin "sorted") (rSortSetY X.prog X.w) := by
  intro pins s σ H vs us Q I r h
  obtain ⟨a, rfl, h⟩ := h
  rw [Vals.ref1 r]
  have goal : ∀ (s' : Shared) (p : Addr) (out : Array Value) (c : Nat) (vs : List V), (∀ b o, s.heap.get? b = some o → s'.heap.get? b = some o) → s'.gens = s.gens → s'.os = s.os → s.heap.objs.size ≤ p →
      s'.heap.get? p = some (seqObj "list" out c) → Vals vs out.toList → vs.length ≤ sizeLine → (∀ p, H p = none → Q (.ref p) (upd H p (.lst vs))) → EP X pins σ Q (.ref p) s' := fun s' p out c vs k g o hp hg hv hl q => by
    have free : H p = none := I.hok.fresh hp
    have J : Inv X pins σ (upd H p (.lst vs)) { s with heap := s'.heap, gens := s'.gens, drawn := s'.drawn, toks := s'.toks } :=
      I.call (ch := []) (Un.laid k hp free) (I.hok.laid k hp ⟨hl, out.toList, c, hv, hg⟩) (by rw [g]; exact I.bare) (fun _ z => nomatch z)
    have e : s' = { s with heap := s'.heap, gens := s'.gens, drawn := s'.drawn, toks := s'.toks } := by
      cases s'
      cases s
      cases o
      rfl
    rw [e]
    exact ⟨.ref p, _, J, rfl, q p free⟩
  rcases h with ⟨l, ha, q⟩ | ⟨l, ha, q⟩
  · have G := setGO_get I ha
    refine setG_sorted G (I.ok.hd hc) (up := fun ys => ys.Pairwise leS) (fun s1 b vs n Rf e hv hz h => ?_) fun s' p out c ys k g o hp hg pr pm up => ?_
    · have sa := pair_strs (keyV_pair hv)
      refine list_sort_treeKAny strKind_oneLt e sa.keysOf (fun v1 v2 rest e => keyKind_strs (by rw [← e]; exact sa)) hz fun st' y1 y2 => ?_
      obtain ⟨ys, z1, z2, z3⟩ := sorted_out_str sa y1 y2
      exact h _ ys (strs_pair z1) z2 (sortedS_pair z3)
    · have sa := pair_strs pr
      have ey := sortS_uniq pm up
      refine goal s' p out c _ k g o hp hg (vals_of_strs sa) ?_ (by rw [ey]; exact q)
      rw [List.length_map, pm.length_eq]
      exact fits_of_scanBound G.small
  · have G := setGO_get I ha
    refine setG_sorted G (I.ok.hd hc) (up := fun ys => ys.Pairwise (· ≤ ·)) (fun s1 b vs n Rf e hv hz h => ?_) fun s' p out c ys k g o hp hg pr pm up => ?_
    · have sa := pair_ints (keyV_pair hv)
      exact list_sort_treeAny e sa hz fun out ys z1 z2 z3 => h _ ys (ints_pair z1) z2 z3
    · have sa := pair_ints pr
      have ey : ys = sortI l := List.Perm.eq_of_pairwise (fun _ _ _ _ h h2 => Int.le_antisymm h h2) up (sortI_asc l) (pm.trans (sortI_perm l).symm)
      refine goal s' p out c _ k g o hp hg (vals_of_ints sa) ?_ (by rw [ey]; exact q)
      rw [List.length_map, pm.length_eq]
      exact fits_of_scanBound G.small
/-- len(set) -/
def rLenSetY (P : Program) (w : World) : List V → Hp → VK → Prop := fun vs H Q => ∃ a, vs = [V.ref a] ∧
  ((∃ l : List Str, H a = some (SetGO P w (PySem.strKind P w) a l) ∧ Q (.int l.length) H) ∨ (∃ l : List Int, H a = some (SetGO P w (PySem.intKind P w) a l) ∧ Q (.int l.length) H))
theorem setG_len {κ : Type} [DecidableEq κ] [Nonempty κ] {P : Program} {w : World} {kd : KeyKind P w κ} {A : Around} {E : Value → Shared → Prop} {s : Shared} {a : Addr} {l : List κ} {Q : Value → Shared → Prop} (R : SetG kd s.heap a l)
    (h : ∀ t t', Q (.int l.length t) { s with toks := t' }) : wpAny (model P w) A (call (.builtin "len") [.ref a]) Q E s := by
  have small := R.small
  obtain ⟨ob, rows, ep, tb, hob, hx, hdt, el, pm, nd, hb, hfit, hris, hled⟩ := R
  have hsz : rows.size = l.length := by rw [← pm.length_eq, List.length_map, Array.length_toList]
  refine call_len_set hob hx hdt hfit ?_ (by rw [hsz]; exact h _ _)
  rw [hsz]
  have : scanBound = 4096 := rfl
  omega
theorem cr_lenSetY {X : Cx} : CallR X (.builtin "len") (rLenSetY X.prog X.w) := by
  intro pins s σ H vs us Q I r h
  obtain ⟨a, rfl, h⟩ := h
  rw [Vals.ref1 r]
  rcases h with ⟨l, ha, q⟩ | ⟨l, ha, q⟩
  · exact setG_len (setGO_get I ha) fun t t' => ⟨.int l.length, H, I.tok _, ⟨t, rfl⟩, q⟩
  · exact setG_len (setGO_get I ha) fun t t' => ⟨.int l.length, H, I.tok _, ⟨t, rfl⟩, q⟩
end Y

set_option Elab.async false
set_option linter.all false
set_option maxRecDepth 100000
set_option maxHeartbeats 2000000
/-! dicts that are written; dicts as data. Keys: whole numbers, texts -/
namespace Y
open PySem PySem.Spec PyProof.Rows L2 Z
class KeyY (κ : Type) where
  kk : κ → Key
  inj : ∀ a b, kk a = kk b → a = b
instance : KeyY Int := ⟨Sum.inl, fun _ _ h => Sum.inl.inj h⟩
instance : KeyY Str := ⟨Sum.inr, fun _ _ h => Sum.inr.inj h⟩
section
variable {κ α : Type} [DecidableEq κ]
def kvM [KeyY κ] (e : α → PyData) (xs : List (κ × α)) : List (Key × PyData) := xs.map fun p => (KeyY.kk p.1, e p.2)
@[reducible] def eM [KeyY κ] (e : α → PyData) (xs : List (κ × α)) : PyData := .dict ((kvM e xs).map fun p => (kD p.1, p.2))
def getA (xs : List (κ × α)) (q : κ) : Option α := (xs.find? fun p => decide (p.1 = q)).map (·.2)
def hasA (xs : List (κ × α)) (q : κ) : Bool := xs.any fun p => decide (p.1 = q)
def putA (xs : List (κ × α)) (q : κ) (v : α) : List (κ × α) := if hasA xs q = true then xs.map (fun p => if p.1 = q then (p.1, v) else p) else xs ++ [(q, v)]
def atA [Inhabited α] (xs : List (κ × α)) (q : κ) : α := (getA xs q).getD default
theorem getA_has (q : κ) : ∀ xs : List (κ × α), (getA xs q).isSome = hasA xs q
  | [] => rfl
  | p :: r => by
    unfold getA hasA
    rw [List.find?_cons, List.any_cons]
    by_cases h : p.1 = q
    · simp [h]
    · have := getA_has q r
      unfold getA hasA at this
      simpa [h] using this
theorem atA_get [Inhabited α] {xs : List (κ × α)} {q : κ} (h : hasA xs q = true) : getA xs q = some (atA xs q) := by
  unfold atA
  rw [← getA_has] at h
  cases e : getA xs q with
  | none => rw [e] at h; cases h
  | some v => rfl
end
/-! ### the heap's pairs -/
section
variable {K : PySem.W.Frag} {H : Hp}
theorem kD_inj : ∀ {a b : Key}, kD a = kD b → a = b
  | .inl i, .inl j, h => by
    injection h with h
    rw [h]
  | .inr x, .inr y, h => by
    injection h with h
    rw [h]
  | .inl i, .inr y, h => by cases h
  | .inr x, .inl j, h => by cases h
theorem kv_pair : ∀ {vs : List (Key × V)} {es : List (PyData × PyData)}, RpKv K H vs es → Paired (fun a b => kD a.1 = b.1 ∧ Rp K H a.2 b.2) vs es
  | _, _, .nil => .nil
  | _, _, .cons h t => .cons ⟨rfl, h⟩ (kv_pair t)
theorem pair_kv : ∀ {vs : List (Key × V)} {es : List (PyData × PyData)}, Paired (fun a b => kD a.1 = b.1 ∧ Rp K H a.2 b.2) vs es → RpKv K H vs es
  | _, _, .nil => .nil
  | _, (d1, d2) :: _, .cons (a := (k, v)) h t => by
    obtain ⟨h1, h2⟩ := h
    have h1 : kD k = d1 := h1
    subst h1
    exact .cons h2 (pair_kv t)
abbrev RpK (K : PySem.W.Frag) (H : Hp) : List (Key × V) → List (Key × PyData) → Prop := Paired fun a b => a.1 = b.1 ∧ Rp K H a.2 b.2
theorem kv_rpK {kvs : List (Key × PyData)} : ∀ {vs : List (Key × V)}, RpKv K H vs (kvs.map fun p => (kD p.1, p.2)) → RpK K H vs kvs := by
  induction kvs with
  | nil =>
    intro vs h
    have h := kv_pair h
    cases h
    exact .nil
  | cons p r ih =>
    intro vs h
    have h := kv_pair h
    cases h with
    | cons h t => exact .cons ⟨kD_inj h.1, h.2⟩ (ih (pair_kv t))
theorem rpK_kv : ∀ {vs : List (Key × V)} {kvs : List (Key × PyData)}, RpK K H vs kvs → RpKv K H vs (kvs.map fun p => (kD p.1, p.2))
  | _, _, .nil => .nil
  | (k, v) :: _, (k2, d) :: _, .cons h t => by
    obtain ⟨h1, h2⟩ := h
    have h1 : k = k2 := h1
    subst h1
    exact .cons h2 (rpK_kv t)
theorem rpK_mono {H' : Hp} (e : Ext H H') {vs : List (Key × V)} {kvs : List (Key × PyData)} (h : RpK K H vs kvs) : RpK K H' vs kvs := Paired.mapP h fun _ _ q => ⟨q.1, rp_mono e q.2⟩
theorem rpK_len {vs : List (Key × V)} {kvs : List (Key × PyData)} (h : RpK K H vs kvs) : vs.length = kvs.length := by
  induction h with
  | nil => rfl
  | cons _ _ ih => rw [List.length_cons, List.length_cons, ih]
theorem rpK_val {k : Key} : ∀ {vs : List (Key × V)} {kvs : List (Key × PyData)}, RpK K H vs kvs → (∃ v d, valV vs k = some v ∧ getA kvs k = some d ∧ Rp K H v d) ∨ (valV vs k = none ∧ getA kvs k = none)
  | _, _, .nil => .inr ⟨rfl, rfl⟩
  | (k1, v) :: r, (k2, d) :: t, .cons h tt => by
    obtain ⟨h1, h2⟩ := h
    have h1 : k1 = k2 := h1
    subst h1
    by_cases z : k1 = k
    · exact .inl ⟨v, d, valV_pos z, by unfold getA; rw [List.find?_cons]; simp [z], h2⟩
    · have e1 : valV ((k1, v) :: r) k = valV r k := valV_neg z
      have e2 : getA ((k1, d) :: t) k = getA t k := by
        unfold getA
        rw [List.find?_cons]
        simp [z]
      rw [e1, e2]
      exact rpK_val tt
theorem rpK_any {k : Key} {vs : List (Key × V)} {kvs : List (Key × PyData)} (h : RpK K H vs kvs) : (vs.any fun kv => decide (kv.1 = k)) = hasA kvs k := by
  induction h with
  | nil => rfl
  | cons h _ ih =>
    unfold hasA at ih ⊢
    rw [List.any_cons, List.any_cons, ih, h.1]
theorem rpK_put {k : Key} {v : V} {d : PyData} {vs : List (Key × V)} {kvs : List (Key × PyData)} (h : RpK K H vs kvs) (hv : Rp K H v d) : RpK K H (putK vs k v) (putA kvs k d) := by
  have ea := rpK_any (k := k) h
  unfold putK putA
  rw [ea]
  by_cases z : hasA kvs k = true
  · rw [if_pos z, if_pos z]
    clear ea z
    induction h with
    | nil => exact .nil
    | @cons a b _ _ h t ih =>
      rw [List.map_cons, List.map_cons]
      refine .cons ?_ ih
      by_cases y : a.1 = k
      · rw [if_pos y, if_pos (h.1 ▸ y)]
        exact ⟨h.1, hv⟩
      · rw [if_neg y, if_neg (h.1 ▸ y)]
        exact h
  · rw [if_neg z, if_neg z]
    clear ea z
    induction h with
    | nil => exact .cons ⟨rfl, hv⟩ .nil
    | cons h t ih => exact .cons h ih
end
section
variable {κ α : Type} [DecidableEq κ] [KeyY κ] {e : α → PyData}
theorem getA_kv {q : κ} : ∀ {xs : List (κ × α)}, getA (kvM e xs) (KeyY.kk q) = (getA xs q).map e
  | [] => rfl
  | p :: r => by
    unfold getA kvM
    rw [List.map_cons, List.find?_cons, List.find?_cons]
    by_cases h : p.1 = q
    · simp [h]
    · have hn : ¬ KeyY.kk p.1 = KeyY.kk q := fun z => h (KeyY.inj _ _ z)
      have ih := getA_kv (q := q) (xs := r)
      unfold getA kvM at ih
      simpa [h, hn] using ih
theorem hasA_kv {q : κ} {xs : List (κ × α)} : hasA (kvM e xs) (KeyY.kk q) = hasA xs q := by
  rw [← getA_has, ← getA_has, getA_kv, Option.isSome_map]
theorem putA_kv {q : κ} {v : α} {xs : List (κ × α)} : putA (kvM e xs) (KeyY.kk q) (e v) = kvM e (putA xs q v) := by
  unfold putA
  rw [hasA_kv]
  split
  · unfold kvM
    rw [List.map_map, List.map_map]
    refine List.map_congr_left fun p _ => ?_
    show (if KeyY.kk p.1 = KeyY.kk q then (KeyY.kk p.1, e v) else (KeyY.kk p.1, e p.2)) = (KeyY.kk (if p.1 = q then (p.1, v) else p).1, e (if p.1 = q then (p.1, v) else p).2)
    by_cases h : p.1 = q
    · rw [if_pos h, if_pos (congrArg _ h)]
    · rw [if_neg h, if_neg fun z => h (KeyY.inj _ _ z)]
  · unfold kvM
    rw [List.map_append]
    rfl
end
/-! ### rules by values -/
theorem u1 {X : Cx} (h : X.A.units + 64 < cLine) : X.A.units + 1 < cLine := Nat.lt_of_le_of_lt (Nat.add_le_add_left (by decide) _) h
def rIxM : R2 := fun x y H Q => ∃ a v, x = .ref a ∧ DGet H a y (some v) ∧ Q v H
theorem ix_M {X : Cx} (hu : X.A.units + 64 < cLine) : IxR X rIxM := by
  intro value slice pins s σ H x y v u Q I rx ry h hs
  obtain ⟨a, w, rfl, g, q⟩ := h
  obtain rfl : v = Value.ref a := rx
  have t := dict_typeIs I g
  have G : wpAny (model X.prog X.w) X.A (getItem (.ref a) u) (EP X pins σ Q) X.xe s := d_getItem (u1 hu) I g ry fun w' s3 I3 rw' => ⟨w, H, I3, rw', q⟩
  unfold subscriptTail
  refine wpAny_bind ?_
  rw [getitemInPython_of_ne t.not_modules]
  refine wpAny_bind (wpAny_specialOf (hT := t) PySem.F.slot_dict_getitem.lookup ?_)
  have fin : wpAny (model X.prog X.w) X.A (subscripted slice false (.ref a) u) (fun r s3 => wpAny (model X.prog X.w) X.A (letTemporaryGo value (.ref a) r >>= fun _ => pure r) (EP X pins σ Q) X.xe s3) X.xe s := by
    rw [hs]
    exact wpAny_operating (wpAny_mono G (fun r s3 z => wpAny_bind (wpAny_letTemporaryGo (wpAny_pure z))) fun _ _ z => z)
  first
    | exact (wpAny_pure (wpAny_bind (fin)))
    | exact (wpAny_bind (wpAny_pure (wpAny_bind fin)))
    | exact (wpAny_bind (fin))
def rInM (b : Bool) : R2 := fun y x H Q => ∃ a o, x = .ref a ∧ DGet H a y o ∧ Q (.bl (if b then !o.isSome else o.isSome)) H
theorem op_inM {X : Cx} (hu : X.A.units + 64 < cLine) : OpR X (compareOp .In) (rInM false) := by
  intro pins s σ H x y v u Q I rx ry h
  obtain ⟨a, o, rfl, g, q⟩ := h
  obtain rfl : u = Value.ref a := ry
  exact d_in (u1 hu) I g rx fun s3 I3 => ⟨.bl o.isSome, H, I3, rfl, q⟩
theorem op_notInM {X : Cx} (hu : X.A.units + 64 < cLine) : OpR X (compareOp .NotIn) (rInM true) := by
  intro pins s σ H x y v u Q I rx ry h
  obtain ⟨a, o, rfl, g, q⟩ := h
  obtain rfl : u = Value.ref a := ry
  exact d_notIn (u1 hu) I g rx fun s3 I3 => ⟨.bl (!o.isSome), H, I3, rfl, q⟩
def rSetM : V → V → V → Hp → (Hp → Prop) → Prop := fun o i v H Q => ∃ a H', o = .ref a ∧ DPut H a i v H' ∧ Q H'
theorem set_M {X : Cx} (hu : X.A.units + 64 < cLine) : PSet X rSetM := by
  intro pins s σ H o i v ov iv u Q I ro ri rv h
  obtain ⟨a, H', rfl, g, q⟩ := h
  obtain rfl : ov = Value.ref a := ro
  exact d_setItem (u1 hu) I g ri rv fun s3 I3 => ⟨H', I3, q⟩
/-! ### the ledger -/
abbrev plusM (L : Led) (p : Addr) (kvs : List (Key × PyData)) : Led := L ++ [(p, .dct kvs)]
theorem plusM_mem {L : Led} {p : Addr} {kvs : List (Key × PyData)} : (p, Mo.dct kvs) ∈ plusM L p kvs := List.mem_append_right _ List.mem_cons_self
theorem plusM_old {L : Led} {p a : Addr} {kvs : List (Key × PyData)} {m : Mo} (h : (a, m) ∈ L) : (a, m) ∈ plusM L p kvs := List.mem_append_left _ h
theorem up_plusM {L : Led} {p : Addr} {a b : List (Key × PyData)} (h : p ∉ L.ks) : up (plusM L p a) p (.dct b) = plusM L p b := by
  unfold up plusM
  rw [List.map_append]
  have e : L.map (fun q => if q.1 = p then (p, Mo.dct b) else q) = L := by
    refine (List.map_congr_left fun q hq => ?_).trans (List.map_id' L)
    exact if_neg fun z : q.1 = p => h (z ▸ List.mem_map.mpr ⟨q, hq, rfl⟩)
  rw [e]
  simp
theorem up_plusM_ne {M2 : Led} {p q : Addr} {A : List (Key × PyData)} {m : Mo} (h : p ≠ q) : up (plusM M2 q A) p m = plusM (up M2 p m) q A := by
  unfold up plusM
  rw [List.map_append]
  congr 1
  simp [Ne.symm h]
section
variable {C : Cz} {ε : Ev} {L L1 : Led} {k : Rs → Led → Prop} {K : PySem.W.Frag} {te to ti : TE} {P : Post}
theorem lok_ownM {K : PySem.W.Frag} {H : Hp} {p : Addr} (h : LOk K L H) (e : H p = none) : LOk K (plusM L p []) (upd H p (.dK [])) := by
  have hp := h.fresh e
  have ex : Ext (hid L H) (hid (plusM L p []) (upd H p (.dK []))) := (grow_own e).ext
  refine ⟨?_, fun q hq => ?_⟩
  · rw [Led.ks, List.map_append]
    refine List.nodup_append.mpr ⟨h.nd, by simp, fun a ha b hb => ?_⟩
    have eb : b = p := List.mem_singleton.mp hb
    rw [eb]
    exact fun z => hp (z ▸ ha)
  · rcases List.mem_append.mp hq with hq | hq
    · have z := h.at_ q hq
      have en : q.1 ≠ p := fun z => hp (z ▸ List.mem_map.mpr ⟨q, hq, rfl⟩)
      obtain ⟨a, m⟩ := q
      cases m with
      | drw =>
        obtain ⟨ns, z⟩ := z
        exact ⟨ns, by rw [upd_ne en]; exact z⟩
      | lst es =>
        obtain ⟨ys, z, y⟩ := z
        exact ⟨ys, by rw [upd_ne en]; exact z, rpAll_mono ex y⟩
      | dct es =>
        obtain ⟨ys, z, y⟩ := z
        exact ⟨ys, by rw [upd_ne en]; exact z, rpKv_mono ex y⟩
    · have e := List.mem_singleton.mp hq
      subst e
      exact ⟨[], upd_same, .nil⟩
theorem lok_upM {K : PySem.W.Frag} {H : Hp} {a : Addr} {ys : List (Key × V)} {kvs : List (Key × PyData)} (l : LOk K L H) (h : a ∈ L.ks) (r : RpK K (hid L H) ys kvs) : LOk K (up L a (.dct kvs)) (upd H a (.dK ys)) := by
  have ex : Ext (hid L H) (hid (Z.up L a (.dct kvs)) (upd H a (.dK ys))) := (grow_up h).ext
  refine ⟨by rw [up_ks]; exact l.nd, fun p hp => ?_⟩
  obtain ⟨q, hq, e⟩ := List.mem_map.mp hp
  by_cases z : q.1 = a
  · rw [if_pos z] at e
    subst e
    exact ⟨ys, upd_same, rpK_kv (rpK_mono ex r)⟩
  · rw [if_neg z] at e
    subst e
    have w := l.at_ q hq
    obtain ⟨b, m⟩ := q
    cases m with
    | drw =>
      obtain ⟨ns, w⟩ := w
      exact ⟨ns, by rw [upd_ne z]; exact w⟩
    | lst es =>
      obtain ⟨zs, w, y⟩ := w
      exact ⟨zs, by rw [upd_ne z]; exact w, rpAll_mono ex y⟩
    | dct es =>
      obtain ⟨zs, w, y⟩ := w
      exact ⟨zs, by rw [upd_ne z]; exact w, rpKv_mono ex y⟩
/-- {} -/
theorem cp_dnew (q : ∀ p, p ∉ L.ks → k (.own p) (plusM L p [])) : CP C tDNewK ε L k := fun σ H Q R X z p hp =>
  z _ (.own p) _ _ (grow_own hp) keeps_own (R.grow (grow_own hp) keeps_own (lok_ownM R.led hp)) ⟨rfl, Led.key plusM_mem⟩ (q p (R.led.fresh hp))
theorem isDct {K : PySem.W.Frag} {H : Hp} (l : LOk K L H) {a : Addr} {kvs : List (Key × PyData)} (m : (a, .dct kvs) ∈ L) : ∃ vs, H a = some (.dK vs) ∧ RpK K (hid L H) vs kvs := by
  obtain ⟨vs, e, r⟩ := l.at_ _ m
  exact ⟨vs, e, kv_rpK r⟩
theorem rp_key {K : PySem.W.Frag} {H : Hp} {v : V} {q : Key} (h : Rp K H v (kD q)) : v = kV q := by
  cases q with
  | inl i =>
    cases h
    rfl
  | inr x =>
    cases h
    rfl
/-- d[q] = e -/
theorem hs_setM (h : CP C te ε L fun r L1 => ∃ d, r = .dat d ∧ CP C to ε L1 fun x L2 => ∃ a, x = .own a ∧ CP C ti ε L2 fun y L3 => ∃ (kvs : List (Key × PyData)) (q : Key), y = .dat (kD q) ∧ (a, .dct kvs) ∈ L3 ∧ kvs.length < sizeLine ∧ P.nx ε (up L3 a (.dct (putA kvs q d)))) :
    HS C (tAsg te (gSub to ti rSetM)) ε L P := fun σ H D R X E =>
  h σ H _ R X fun v r L1 H1 g1 k1 R1 o1 ⟨d, er, h1⟩ => h1 σ H1 _ R1 (X.grow g1) fun w x L2 H2 g2 k2 R2 o2 ⟨a, ex, h2⟩ => h2 σ H2 _ R2 ((X.grow g1).grow g2) fun u y L3 H3 g3 k3 R3 o3 ⟨kvs, q, ey, m, hz, z⟩ => by
    subst er ex ey
    obtain ⟨rfl, _⟩ := o2
    have o3 : Rp C.K (hid L3 H3) u (kD q) := o3
    have eu := rp_key o3
    subst eu
    obtain ⟨vs, exs, hx⟩ := isDct R3.led m
    have ha : a ∈ L3.ks := Led.key m
    have g : Grow H3 L3 (upd H3 a (.dK (putK vs q v))) (up L3 a (.dct (putA kvs q d))) := grow_up ha
    have od : Rp C.K (hid L3 H3) v d := rp_mono (g2.trans g3).ext o1
    exact ⟨a, _, rfl, .inl ⟨vs, q, exs, rfl, by rw [rpK_len hx]; exact hz, rfl⟩, E.nx ε _ σ _ (((g1.trans g2).trans g3).trans g) (R3.grow g keeps_up (lok_upM R3.led ha (rpK_put hx od))) z⟩
/-! reading -/
/-- what a dict is: one that is written, one that is data -/
inductive DctAt (L : Led) : Rs → List (Key × PyData) → Prop
  | own {a : Addr} {kvs : List (Key × PyData)} (m : (a, .dct kvs) ∈ L) : DctAt L (.own a) kvs
  | dat (kvs : List (Key × PyData)) : DctAt L (.dat (.dict (kvs.map fun p => (kD p.1, p.2)))) kvs
theorem DctAt.ok {K : PySem.W.Frag} {H : Hp} (l : LOk K L H) {r : Rs} {v : V} {kvs : List (Key × PyData)} (d : DctAt L r kvs) (o : RsOk K L H v r) : ∃ a vs, v = .ref a ∧ H a = some (.dK vs) ∧ RpK K (hid L H) vs kvs := by
  cases d with
  | own m =>
    obtain ⟨vs, e, h⟩ := isDct l m
    exact ⟨_, vs, o.1, e, h⟩
  | dat kvs =>
    have o : Rp K (hid L H) v (.dict (kvs.map fun p => (kD p.1, p.2))) := o
    cases o with
    | dct e h => exact ⟨_, _, rfl, hid_sub _ _ e, kv_rpK h⟩
theorem od_ixM {r : Rs} {kvs : List (Key × PyData)} {q : Key} {d : PyData} (m : DctAt L r kvs) (e : getA kvs q = some d) (z : k (.dat d) L) : OD C rIxM r (.dat (kD q)) L k := od_val (fun v w H l a b => by
  obtain ⟨p, vs, rfl, e1, h⟩ := m.ok l a
  have b : Rp C.K (hid L H) w (kD q) := b
  have eb := rp_key b
  subst eb
  rcases rpK_val (k := q) h with ⟨u, d', e2, e3, o⟩ | ⟨_, e3⟩
  · rw [e3] at e
    cases e
    exact ⟨u, o, fun Q f => ⟨p, u, rfl, .inl ⟨vs, q, .inl e1, rfl, e2.symm⟩, f⟩⟩
  · rw [e3] at e
    cases e) z
theorem od_inM {r : Rs} {kvs : List (Key × PyData)} {q : Key} (m : DctAt L r kvs) (z : k (.dat (.bool (hasA kvs q))) L) : OD C (rInM false) (.dat (kD q)) r L k := od_val (fun w v H l b a => by
  obtain ⟨p, vs, rfl, e1, h⟩ := m.ok l a
  have b : Rp C.K (hid L H) w (kD q) := b
  have eb := rp_key b
  subst eb
  have eq : (valV vs q).isSome = hasA kvs q := by
    rw [← getA_has]
    rcases rpK_val (k := q) h with ⟨u, d', e2, e3, o⟩ | ⟨e2, e3⟩
    · rw [e2, e3]; rfl
    · rw [e2, e3]
      rfl
  exact ⟨.bl (hasA kvs q), .bl _, fun Q f => ⟨p, valV vs q, rfl, .inl ⟨vs, q, .inl e1, rfl, rfl⟩, by rw [eq]; exact f⟩⟩) z
theorem od_notInM {r : Rs} {kvs : List (Key × PyData)} {q : Key} (m : DctAt L r kvs) (z : k (.dat (.bool (!hasA kvs q))) L) : OD C (rInM true) (.dat (kD q)) r L k := od_val (fun w v H l b a => by
  obtain ⟨p, vs, rfl, e1, h⟩ := m.ok l a
  have b : Rp C.K (hid L H) w (kD q) := b
  have eb := rp_key b
  subst eb
  have eq : (valV vs q).isSome = hasA kvs q := by
    rw [← getA_has]
    rcases rpK_val (k := q) h with ⟨u, d', e2, e3, o⟩ | ⟨e2, e3⟩
    · rw [e2, e3]; rfl
    · rw [e2, e3]
      rfl
  exact ⟨.bl (!hasA kvs q), .bl _, fun Q f => ⟨p, valV vs q, rfl, .inl ⟨vs, q, .inl e1, rfl, rfl⟩, by rw [if_pos rfl, eq]; exact f⟩⟩) z
end
end Y

set_option Elab.async false
set_option linter.all false
set_option maxRecDepth 100000
set_option maxHeartbeats 2000000
/-! rules for texts, sets, dicts by types -/
namespace Y
open PySem PySem.Spec PyProof.Rows L2 Z
section
variable {C : Cz} {ε ε' : Ev} {L L1 L2 : Led} {k : Rs → Led → Prop} {K : PySem.W.Frag} {te tb : TE}
/-! ### texts -/
theorem od_inSgn {x z : Str} (h : x.length = 1) (q : k (.dat (.bool (inB x (sgns z)))) L) : OD C (rInZ K) (.dat (.str x)) (.dat (.str z)) L k := by
  obtain ⟨⟨l⟩⟩ := x
  match l, h with
  | [c], _ =>
    have e : decide (c ∈ z.cps.toList) = inB (⟨#[c]⟩ : Str) (sgns z) := by
      unfold inB sgns
      rw [decide_eq_decide, List.mem_map]
      exact ⟨fun h => ⟨c, h, rfl⟩, fun ⟨d, hd, e⟩ => by
        injection e with e
        have := congrArg Array.toList e
        injection this with e1
        exact e1 ▸ hd⟩
    refine od_in_sign ?_
    rw [e]
    exact q
theorem od_notInSgn {x z : Str} (h : x.length = 1) (q : k (.dat (.bool (!inB x (sgns z)))) L) : OD C (rNotInZ K) (.dat (.str x)) (.dat (.str z)) L k := by
  obtain ⟨⟨l⟩⟩ := x
  match l, h with
  | [c], _ =>
    have e : decide (c ∈ z.cps.toList) = inB (⟨#[c]⟩ : Str) (sgns z) := by
      unfold inB sgns
      rw [decide_eq_decide, List.mem_map]
      exact ⟨fun h => ⟨c, h, rfl⟩, fun ⟨d, hd, e⟩ => by
        injection e with e
        have := congrArg Array.toList e
        injection this with e1
        exact e1 ▸ hd⟩
    refine od_notIn_sign ?_
    rw [e]
    exact q
def okInt (a : Str) : Bool := (PySem.intText? a).isSome && decide (a.length ≤ 640)
def intS (a : Str) : Int := (PySem.intText? a).getD 0
theorem cd_intS {a : Str} (h : okInt a = true) (q : k (.dat (.int (intS a))) L) : CD C rIntZ [.dat (.str a)] L k := by
  unfold okInt at h
  rw [Bool.and_eq_true, decide_eq_true_eq] at h
  refine cd_int_str ⟨?_, h.2⟩ q
  unfold intS
  cases e : PySem.intText? a with
  | none => rw [e] at h; cases h.1
  | some n => rfl
abbrev rStrY : List V → Hp → VK → Prop := fun xs H Q => (∃ i, xs = [V.int i] ∧ i.natAbs.log2 < 1920 ∧ Q (.str (toString i)) H) ∨ ∃ a, xs = [.str a] ∧ Q (.str a) H
theorem call_strY {X : Cx} : CallR X (.type "str") rStrY := call_str_int.or SkE.call_str_str
theorem cd_strI {i : Int} (h : i.natAbs.log2 < 1920) (q : k (.dat (.str (toString i))) L) : CD C rStrY [.dat (.int i)] L k := cd_or1 (cd_val (fun vs H l o => by
  obtain ⟨v, rfl, o1⟩ := rsAll_1 o
  cases o1
  exact ⟨.str _, .str _, fun Q f => ⟨i, rfl, h, f⟩⟩) q)
theorem cd_strS {a : Str} (q : k (.dat (.str a)) L) : CD C rStrY [.dat (.str a)] L k := cd_or2 (cd_val (fun vs H l o => by
  obtain ⟨v, rfl, o1⟩ := rsAll_1 o
  cases o1
  exact ⟨.str _, .str _, fun Q f => ⟨a, rfl, f⟩⟩) q)
theorem ev_join {a : Str} {ys : List Str} (h : EV C te ε L (.dat (.str a)) L1) (h2 : EV C tb ε L1 (.dat (eL eS ys)) L2) (hz : (ys.map (·.length)).sum + ys.length * a.length ≤ 16777216) (hK : C.K = K := by rfl) :
    EV C (tBM K "str" (rJoinZ K) te (tCons tb tNil)) ε L (.dat (.str (Txt.join a ys))) L2 := fun k q => by
  subst hK
  exact cp_bm (h _ ⟨⟨rfl, .inl rfl⟩, ca_cons (h2 _ (ca_nil (md_join hz q)))⟩)
/-! ### sorted -/
def rSortedSY (K : PySem.W.Frag) : List V → Hp → VK → Prop := fun vs H Q => ∃ (a : Addr) (xs : List Str), vs = [V.ref a] ∧ SqL K H a (xs.map V.str) ∧ ∀ p, H p = none → Q (.ref p) (upd H p (.lst ((sortS xs).map V.str)))
theorem cr_sortedSY {X : Cx} : CallR X (.builtin "sorted") (rSortedSY X.K) := by
  intro pins s σ H vs us Q I r h
  obtain ⟨a, xs, rfl, hs, q⟩ := h
  obtain ⟨its, rv, hl, hz⟩ := I.list hs
  rw [Vals.ref1 r]
  refine PyProof.Rows.sorted_strsAny hl.isList rv.strs (by rw [← rv.length]; exact hz) fun out ys h1 h2 h3 => ?_
  obtain ⟨ep, he⟩ := PyProof.Rows.sortedAll_at s.heap its out
  have ey := sortS_uniq h2 (sortedS_pair h3)
  have hlen : (ys.map V.str).length ≤ sizeLine := by
    rw [List.length_map, h2.length_eq]
    rw [List.length_map] at hz
    exact hz
  refine ⟨.ref _, upd H (s.heap.objs.size + 1) (.lst (ys.map V.str)), I.laid (t' := s.toks) (fun _ _ => PyProof.Rows.sortedAll_old) (Nat.le_succ _) ⟨hlen, out.toList, ep, vals_of_strs h1, he⟩, rfl, ?_⟩
  rw [ey]
  exact q _ (I.hok.fresh (Nat.le_succ _))
def rSortDY : List V → Hp → VK → Prop := fun vs H Q => (∃ (a : Addr) (kvs : List (Key × V)) (ks : List Str), vs = [V.ref a] ∧ Rd H a (.dK kvs) ∧ kvs.map (·.1) = ks.map Sum.inr ∧ ks.length < 64 ∧ ∀ ys p, ys.Perm ks → sortedS ys = true → H p = none → Q (.ref p) (upd H p (.lst (ys.map V.str)))) ∨
  (∃ (a : Addr) (kvs : List (Key × V)) (ks : List Int), vs = [V.ref a] ∧ Rd H a (.dK kvs) ∧ kvs.map (·.1) = ks.map Sum.inl ∧ ks.length < 64 ∧ ∀ (ys : List Int) (p : Addr), ys.Perm ks → ys.Pairwise (· ≤ ·) → H p = none → Q (.ref p) (upd H p (.lst (ys.map V.int))))
theorem cr_sortDY {X : Cx} (hc : X.calm = true) : CallR X (.builtin "sorted") rSortDY := (call_sortedD hc).or (call_sortedDI hc)
def rSortedY (K : PySem.W.Frag) : List V → Hp → VK → Prop := fun vs H Q => rSortedI K vs H Q ∨ (rSortedSY K vs H Q ∨ rSortDY vs H Q)
theorem call_sortedY {X : Cx} (hc : X.calm = true) : CallR X (.builtin "sorted") (rSortedY X.K) := cr_sortedI.or (cr_sortedSY.or (cr_sortDY hc))
theorem cd_sortYI {ns : List Int} (q : k (.dat (.list ((sortI ns).map PyData.int))) L) : CD C (rSortedY K) [.dat (.list (ns.map PyData.int))] L k := cd_or1 (cd_sortI q)
theorem cd_sortYS {xs : List Str} (q : k (.dat (eL eS (sortS xs))) L) : CD C (rSortedY K) [.dat (eL eS xs)] L k := cd_or2 (cd_or1 (cd_lst (fun vs H l o => by
  obtain ⟨v, rfl, o1⟩ := rsAll_1 o
  cases o1 with
  | @lst p ys _ e ha =>
    have ex := strs_of ha
    subst ex
    exact ⟨(sortS xs).map V.str, rpAll_strs _, fun Q f => ⟨p, xs, rfl, SqL.of (hid_sub _ _ e), fun a h => f a h⟩⟩) q))
/-- the keys -/
def keysA {κ α : Type} (xs : List (κ × α)) : List κ := xs.map (·.1)
theorem rpK_keys {κ α : Type} [KeyY κ] {e : α → PyData} {H : Hp} : ∀ {xs : List (κ × α)} {vs : List (Key × V)}, RpK K H vs (kvM e xs) → vs.map (·.1) = (keysA xs).map KeyY.kk
  | [], _, h => by
    cases h
    rfl
  | p :: r, _, .cons (l₁ := vs) h t => by
    unfold keysA
    rw [List.map_cons, List.map_cons, List.map_cons, h.1]
    exact congrArg _ (rpK_keys (xs := r) t)
theorem cd_sortDS {α : Type} {e : α → PyData} {r : Rs} {xs : List (Str × α)} (m : DctAt L r (kvM e xs)) (hz : xs.length < 64) (q : k (.dat (eL eS (sortS (keysA xs)))) L) : CD C (rSortedY K) [r] L k := cd_or2 (cd_or2 (cd_or1 (cd_lst (fun vs H l o => by
  obtain ⟨v, rfl, o1⟩ := rsAll_1 o
  obtain ⟨a, vs, rfl, e1, h⟩ := m.ok l o1
  refine ⟨(sortS (keysA xs)).map V.str, rpAll_strs _, fun Q f => ⟨a, vs, keysA xs, rfl, .inl e1, rpK_keys h, by unfold keysA; rw [List.length_map]; exact hz, fun ys p h1 h2 h3 => ?_⟩⟩
  rw [sortS_uniq h1 (sortedS_pair h2)]
  exact f p h3) q)))
theorem cd_sortDI {α : Type} {e : α → PyData} {r : Rs} {xs : List (Int × α)} (m : DctAt L r (kvM e xs)) (hz : xs.length < 64) (q : k (.dat (eL eI (sortI (keysA xs)))) L) : CD C (rSortedY K) [r] L k := cd_or2 (cd_or2 (cd_or2 (cd_lst (fun vs H l o => by
  obtain ⟨v, rfl, o1⟩ := rsAll_1 o
  obtain ⟨a, vs, rfl, e1, h⟩ := m.ok l o1
  refine ⟨(sortI (keysA xs)).map V.int, rpAll_ints _, fun Q f => ⟨a, vs, keysA xs, rfl, .inl e1, rpK_keys h, by unfold keysA; rw [List.length_map]; exact hz, fun ys p h1 h2 h3 => ?_⟩⟩
  have ey : ys = sortI (keysA xs) := List.Perm.eq_of_pairwise (fun _ _ _ _ h h2 => Int.le_antisymm h h2) h2 (sortI_asc _) (h1.trans (sortI_perm _).symm)
  rw [ey]
  exact f p h3) q)))
/-! ### sorted(set(..)), len(set(..)) -/
theorem set_src {P : Program} {w : World} {H : Hp} {v : V} {Q : VK} {d : PyData} (o : Rp K H v d) {xs : List Str} (hd : d = eL eS xs ∨ d = eT eS xs) (hz : xs.length + 1 < scanBound) {Hs : Hp} (ex : Ext H Hs)
    (q : ∀ p, Hs p = none → Q (.ref p) (upd Hs p (SetGO P w (PySem.strKind P w) p (onceAll xs)))) : rSetY K P w [v] Hs Q := by
  rcases hd with rfl | rfl
  · cases o with
    | @lst p ys _ e ha =>
      have := strs_of ha
      subst this
      exact ⟨p, rfl, .inl ⟨xs, .inl (SqL.of (ex _ _ e)), hz, q⟩⟩
  · cases o with
    | @tup p ys _ e ha =>
      have := strs_of ha
      subst this
      exact ⟨p, rfl, .inl ⟨xs, .inr (ext_t ex e), hz, q⟩⟩
theorem set_srcI {P : Program} {w : World} {H : Hp} {v : V} {Q : VK} {d : PyData} (o : Rp K H v d) {xs : List Int} (hd : d = eL eI xs ∨ d = eT eI xs) (hz : xs.length + 1 < scanBound) {Hs : Hp} (ex : Ext H Hs)
    (q : ∀ p, Hs p = none → Q (.ref p) (upd Hs p (SetGO P w (PySem.intKind P w) p (onceAll xs)))) : rSetY K P w [v] Hs Q := by
  rcases hd with rfl | rfl
  · cases o with
    | @lst p ys _ e ha =>
      have := ints_of ha
      subst this
      exact ⟨p, rfl, .inr ⟨xs, .inl (SqL.of (ex _ _ e)), hz, q⟩⟩
  · cases o with
    | @tup p ys _ e ha =>
      have := ints_of ha
      subst this
      exact ⟨p, rfl, .inr ⟨xs, .inr (ext_t ex e), hz, q⟩⟩
variable {P : Program} {w : World}
theorem ev_sortSetS {d : PyData} {xs : List Str} (h : EV C te ε L (.dat d) L1) (hd : d = eL eS xs ∨ d = eT eS xs) (hz : xs.length + 1 < scanBound) (hK : C.K = K := by rfl) :
    EV C (tCB (rSortSetY P w) (tCons (tCB (rSetY K P w) (tCons te tNil)) tNil)) ε L (.dat (eL eS (usortS xs))) L1 := fun k q σ H Q R X z => by
  subst hK
  refine h (fun r L' => r = .dat d ∧ L' = L1) ⟨rfl, rfl⟩ σ H _ R X fun v r L2 H1 g1 k1 R1 o1 ⟨er, el⟩ => ?_
  subst er el
  show rSetY C.K P w [v] H1 (fun x H2 => rSortSetY P w [x] H2 Q)
  refine set_src o1 hd hz hid_sub fun p hp => ⟨p, rfl, .inl ⟨_, upd_same, fun p2 h4 => ?_⟩⟩
  have g2 : Grow H1 L2 (upd H1 p (SetGO P w (PySem.strKind P w) p (onceAll xs))) L2 := grow_new hp
  have l2 := R1.led.new (o := SetGO P w (PySem.strKind P w) p (onceAll xs)) hp
  have R2 := R1.grow g2 (Keeps.refl _) l2
  have g3 : Grow (upd H1 p (SetGO P w (PySem.strKind P w) p (onceAll xs))) L2 (upd (upd H1 p (SetGO P w (PySem.strKind P w) p (onceAll xs))) p2 (.lst ((sortS (onceAll xs)).map V.str))) L2 := grow_new h4
  exact z _ (.dat (eL eS (usortS xs))) L2 _ ((g1.trans g2).trans g3) k1 (R2.grow g3 (Keeps.refl _) (l2.new h4)) (.lst (by rw [hid_out (l2.fresh h4)]; exact upd_same) (rpAll_strs _)) q
theorem ev_sortSetI {d : PyData} {xs : List Int} (h : EV C te ε L (.dat d) L1) (hd : d = eL eI xs ∨ d = eT eI xs) (hz : xs.length + 1 < scanBound) (hK : C.K = K := by rfl) :
    EV C (tCB (rSortSetY P w) (tCons (tCB (rSetY K P w) (tCons te tNil)) tNil)) ε L (.dat (eL eI (usort xs))) L1 := fun k q σ H Q R X z => by
  subst hK
  refine h (fun r L' => r = .dat d ∧ L' = L1) ⟨rfl, rfl⟩ σ H _ R X fun v r L2 H1 g1 k1 R1 o1 ⟨er, el⟩ => ?_
  subst er el
  have eu : sortI (onceAll xs) = usort xs := usort_of (sortI_perm _) (sortI_asc _)
  show rSetY C.K P w [v] H1 (fun x H2 => rSortSetY P w [x] H2 Q)
  refine set_srcI o1 hd hz hid_sub fun p hp => ⟨p, rfl, .inr ⟨_, upd_same, fun p2 h4 => ?_⟩⟩
  have g2 : Grow H1 L2 (upd H1 p (SetGO P w (PySem.intKind P w) p (onceAll xs))) L2 := grow_new hp
  have l2 := R1.led.new (o := SetGO P w (PySem.intKind P w) p (onceAll xs)) hp
  have R2 := R1.grow g2 (Keeps.refl _) l2
  have g3 : Grow (upd H1 p (SetGO P w (PySem.intKind P w) p (onceAll xs))) L2 (upd (upd H1 p (SetGO P w (PySem.intKind P w) p (onceAll xs))) p2 (.lst ((sortI (onceAll xs)).map V.int))) L2 := grow_new h4
  exact z _ (.dat (eL eI (usort xs))) L2 _ ((g1.trans g2).trans g3) k1 (R2.grow g3 (Keeps.refl _) (l2.new h4)) (.lst (by rw [hid_out (l2.fresh h4), eu]; exact upd_same) (rpAll_ints _)) q
theorem ev_lenSetS {d : PyData} {xs : List Str} (h : EV C te ε L (.dat d) L1) (hd : d = eL eS xs ∨ d = eT eS xs) (hz : xs.length + 1 < scanBound) (hK : C.K = K := by rfl) :
    EV C (tCB (rLenSetY P w) (tCons (tCB (rSetY K P w) (tCons te tNil)) tNil)) ε L (.dat (.int ((onceAll xs).length : Int))) L1 := fun k q σ H Q R X z => by
  subst hK
  refine h (fun r L' => r = .dat d ∧ L' = L1) ⟨rfl, rfl⟩ σ H _ R X fun v r L2 H1 g1 k1 R1 o1 ⟨er, el⟩ => ?_
  subst er el
  show rSetY C.K P w [v] H1 (fun x H2 => rLenSetY P w [x] H2 Q)
  refine set_src o1 hd hz hid_sub fun p hp => ⟨p, rfl, .inl ⟨_, upd_same, ?_⟩⟩
  have g2 : Grow H1 L2 (upd H1 p (SetGO P w (PySem.strKind P w) p (onceAll xs))) L2 := grow_new hp
  exact z _ (.dat (.int _)) L2 _ (g1.trans g2) k1 (R1.grow g2 (Keeps.refl _) (R1.led.new hp)) (.int _) q
theorem ev_lenSetI {d : PyData} {xs : List Int} (h : EV C te ε L (.dat d) L1) (hd : d = eL eI xs ∨ d = eT eI xs) (hz : xs.length + 1 < scanBound) (hK : C.K = K := by rfl) :
    EV C (tCB (rLenSetY P w) (tCons (tCB (rSetY K P w) (tCons te tNil)) tNil)) ε L (.dat (.int ((onceAll xs).length : Int))) L1 := fun k q σ H Q R X z => by
  subst hK
  refine h (fun r L' => r = .dat d ∧ L' = L1) ⟨rfl, rfl⟩ σ H _ R X fun v r L2 H1 g1 k1 R1 o1 ⟨er, el⟩ => ?_
  subst er el
  show rSetY C.K P w [v] H1 (fun x H2 => rLenSetY P w [x] H2 Q)
  refine set_srcI o1 hd hz hid_sub fun p hp => ⟨p, rfl, .inr ⟨_, upd_same, ?_⟩⟩
  have g2 : Grow H1 L2 (upd H1 p (SetGO P w (PySem.intKind P w) p (onceAll xs))) L2 := grow_new hp
  exact z _ (.dat (.int _)) L2 _ (g1.trans g2) k1 (R1.grow g2 (Keeps.refl _) (R1.led.new hp)) (.int _) q
/-! ### dicts by types -/
section
variable {κ α : Type} [DecidableEq κ] [KeyY κ] {e : α → PyData}
theorem od_ixA [Inhabited α] {r : Rs} {xs : List (κ × α)} {q : κ} (m : DctAt L r (kvM e xs)) (h : hasA xs q = true) (z : k (.dat (e (atA xs q))) L) : OD C rIxM r (.dat (kD (KeyY.kk q))) L k :=
  od_ixM m (by rw [getA_kv, atA_get h]; rfl) z
theorem od_inA {r : Rs} {xs : List (κ × α)} {q : κ} (m : DctAt L r (kvM e xs)) (z : k (.dat (.bool (hasA xs q))) L) : OD C (rInM false) (.dat (kD (KeyY.kk q))) r L k := od_inM m (by rw [hasA_kv]; exact z)
theorem od_notInA {r : Rs} {xs : List (κ × α)} {q : κ} (m : DctAt L r (kvM e xs)) (z : k (.dat (.bool (!hasA xs q))) L) : OD C (rInM true) (.dat (kD (KeyY.kk q))) r L k := od_notInM m (by rw [hasA_kv]; exact z)
theorem dctO {p : Addr} {xs : List (κ × α)} (m : (p, .dct (kvM e xs)) ∈ L) : DctAt L (.own p) (kvM e xs) := .own m
theorem dctD {xs : List (κ × α)} : DctAt L (.dat (eM e xs)) (kvM e xs) := .dat _
variable {σ l ρ : Type} {F : Fx ρ} {N : NR σ} {M : NR l} {u : TS} {to ti : TE}
/-- x = {} -/
theorem hv_ownM {i : Nat} {q : List (κ × α) → Ctl σ l ρ} (h2 : ∀ p x, p ∉ L.ks → HV F N M u (ε.set i (some (.own p))) (plusM L p (kvM e x)) (q x)) : HV F N M (tSeq (tAsg tDNewK (gName i)) u) ε L (lt ([] : List (κ × α)) q) := fun P A =>
  hs_seq (hs_asg (cp_dnew fun p hp => h2 p [] hp P A))
/-- x[y] = z -/
theorem hv_setM {p : Addr} {xs : List (κ × α)} {y : κ} {v : α} {q : List (κ × α) → Ctl σ l ρ} {Lf : List (κ × α) → Led} (h : EV F.C te ε L (.dat (e v)) L) (ho : EV F.C to ε L (.own p) L) (hi : EV F.C ti ε L (.dat (kD (KeyY.kk y))) L)
    (hm : (p, .dct (kvM e xs)) ∈ L) (hz : xs.length < sizeLine) (hL : ∀ l' : List (κ × α), up L p (.dct (kvM e l')) = Lf l') (h2 : ∀ x, HV F N M u ε (Lf x) (q x)) : HV F N M (tSeq (tAsg te (gSub to ti rSetM)) u) ε L (lt (putA xs y v) q) := fun P A =>
  hs_seq (hs_setM (h _ ⟨e v, rfl, ho _ ⟨p, rfl, hi _ ⟨kvM e xs, KeyY.kk y, rfl, hm, by unfold kvM; rw [List.length_map]; exact hz, by rw [putA_kv, hL]; exact h2 _ P A⟩⟩⟩))
/-- for the ledger's way from a written dict to data -/
theorem frzM {L' M2 : Led} {p : Addr} {xs : List (κ × α)} (m : (p, .dct (kvM e xs)) ∈ L') (h : p ∉ M2.ks) : RsWk L' M2 (.own p) (.dat (eM e xs)) := .frzM m h
end
end
end Y

set_option Elab.async false
set_option linter.all false
set_option maxRecDepth 100000
set_option maxHeartbeats 4000000
namespace W03
open PySem PySem.Spec PyProof.Rows L2 Z Y
noncomputable def m_has_signs (v_value : PyData) (v_length : Int) (v_signs : Str) : Res Bool :=
  run ((grd (((isD v_value "str") = true → hasLen v_value = true ∧ ((((lenD v_value) == v_length)) = true → isSeqD v_value = true ∧ (∀ x1 ∈ (itemsD v_value), tyS.p x1 = true ∧ (tyS.f x1).length = 1) ∧ (itemsD v_value).length < sizeLine))) (.rt ((isD v_value "str") && ((((lenD v_value) == v_length)) && ((itemsD v_value).all (fun x1 : PyData => (inB (tyS.f x1) (sgns v_signs)))))))) : Ctl Unit Unit Bool)
@[reducible] def d_has_signs (ca : Nat → Addr) : DSp := fun rs L k x => ∃ (v_value : PyData) (v_length : Int) (v_signs : Str), rs = [.dat (eD v_value), .dat (eI v_length), .dat (eS v_signs)] ∧ AccR ca (m_has_signs v_value v_length v_signs) (fun r => k (.dat (eB r)) L) fun _ => False
noncomputable def m_is_number (v_value : PyData) : Res Bool :=
  run ((grd ((m_has_signs v_value (12 : Int) ("0123456789" : Str)).isOk = true) (.rt (m_has_signs v_value (12 : Int) ("0123456789" : Str)).get)) : Ctl Unit Unit Bool)
@[reducible] def d_is_number (ca : Nat → Addr) : DSp := fun rs L k x => ∃ (v_value : PyData), rs = [.dat (eD v_value)] ∧ AccR ca (m_is_number v_value) (fun r => k (.dat (eB r)) L) fun _ => False
noncomputable def m_weight_of (v_at : Int) (v_figure : Int) : Res Int :=
  run ((bif (((v_at % (2 : Int)) == (1 : Int))) then (.rt v_figure) else (.rt (bif (decide (v_figure < (5 : Int))) then ((2 : Int) * v_figure) else (((2 : Int) * v_figure) - (9 : Int))))) : Ctl Unit Unit Int)
@[reducible] def d_weight_of (ca : Nat → Addr) : DSp := fun rs L k x => ∃ (v_at : Int) (v_figure : Int), rs = [.dat (eI v_at), .dat (eI v_figure)] ∧ AccR ca (m_weight_of v_at v_figure) (fun r => k (.dat (eI r)) L) fun _ => False
noncomputable def m_sum_by (v_number : Str) : Res Int :=
  run ((grd ((∀ x1 ∈ (enumI (sgns v_number)), okInt x1.2 = true ∧ (m_weight_of x1.1 (intS x1.2)).isOk = true) ∧ (enumI (sgns v_number)).length < sizeLine) (.rt ((enumI (sgns v_number)).map fun x1 : (Int × Str) => (m_weight_of x1.1 (intS x1.2)).get).sum)) : Ctl Unit Unit Int)
@[reducible] def d_sum_by (ca : Nat → Addr) : DSp := fun rs L k x => ∃ (v_number : Str), rs = [.dat (eS v_number)] ∧ AccR ca (m_sum_by v_number) (fun r => k (.dat (eI r)) L) fun _ => False
noncomputable def m_is_sound (v_value : PyData) : Res Bool :=
  run ((grd ((m_is_number v_value).isOk = true ∧ ((m_is_number v_value).get = true → tyS.p v_value = true ∧ (m_sum_by (tyS.f v_value)).isOk = true)) (.rt ((m_is_number v_value).get && ((((m_sum_by (tyS.f v_value)).get % (10 : Int)) == (0 : Int)))))) : Ctl Unit Unit Bool)
@[reducible] def d_is_sound (ca : Nat → Addr) : DSp := fun rs L k x => ∃ (v_value : PyData), rs = [.dat (eD v_value)] ∧ AccR ca (m_is_sound v_value) (fun r => k (.dat (eB r)) L) fun _ => False
noncomputable def m_check_is (v_is_fine : Bool) : Res Unit :=
  runN ((bif (!v_is_fine) then (.ex 0) else (.nx ())) : Ctl Unit Unit Unit)
@[reducible] def d_check_is (ca : Nat → Addr) : DSp := fun rs L k x => ∃ (v_is_fine : Bool), rs = [.dat (eB v_is_fine)] ∧ AccR ca (m_check_is v_is_fine) (fun r => k (.dat (eN r)) L) fun c => x c L
noncomputable def m_check_figure (v_figures : PyData) : Res Str :=
  run ((grd ((m_has_signs v_figures ((12 : Int) - (1 : Int)) ("0123456789" : Str)).isOk = true) (callC (m_check_is (m_has_signs v_figures ((12 : Int) - (1 : Int)) ("0123456789" : Str)).get) fun _ => (grd (tyS.p v_figures = true) (lt (tyS.f v_figures) fun v_figures : Str => (grd ((m_sum_by v_figures).isOk = true ∧ (((-(m_sum_by v_figures).get) % (10 : Int))).natAbs.log2 < 1920) (.rt (toString ((-(m_sum_by v_figures).get) % (10 : Int)) : Str))))))) : Ctl Unit Unit Str)
@[reducible] def d_check_figure (ca : Nat → Addr) : DSp := fun rs L k x => ∃ (v_figures : PyData), rs = [.dat (eD v_figures)] ∧ AccR ca (m_check_figure v_figures) (fun r => k (.dat (eS r)) L) fun c => x c L
noncomputable def m_sum_of (v_number : PyData) : Res Int :=
  run ((grd ((m_is_number v_number).isOk = true) (callC (m_check_is (m_is_number v_number).get) fun _ => (grd (tyS.p v_number = true) (lt (tyS.f v_number) fun v_number : Str => (grd ((m_sum_by v_number).isOk = true) (.rt (m_sum_by v_number).get)))))) : Ctl Unit Unit Int)
@[reducible] def d_sum_of (ca : Nat → Addr) : DSp := fun rs L k x => ∃ (v_number : PyData), rs = [.dat (eD v_number)] ∧ AccR ca (m_sum_of v_number) (fun r => k (.dat (eI r)) L) fun c => x c L
noncomputable def m_slips_of (v_number : PyData) : Res (List Str) :=
  run ((grd ((m_is_sound v_number).isOk = true) (callC (m_check_is (m_is_sound v_number).get) fun _ => (grd (tyS.p v_number = true) (lt (tyS.f v_number) fun v_number : Str => (lt ([] : (List (Str × Bool))) fun v_found : (List (Str × Bool)) => (grd (bnd ((12 : Int) - (1 : Int))) (Ctl.bind (forC (rngI 0 ((12 : Int) - (1 : Int))) (v_found : (List (Str × Bool))) (fun (x1 : Int) (s : (List (Str × Bool))) => match s with | v_found => (grd (v_number.length ≤ sizeLine ∧ okIx v_number.cps.toList (x1 + (1 : Int)) ∧ (cutStr v_number none (some x1)).length + (ixS v_number (x1 + (1 : Int))).length ≤ sizeLine ∧ okIx v_number.cps.toList x1 ∧ ((cutStr v_number none (some x1)) ++ (ixS v_number (x1 + (1 : Int)))).length + (ixS v_number x1).length ≤ sizeLine ∧ (((cutStr v_number none (some x1)) ++ (ixS v_number (x1 + (1 : Int)))) ++ (ixS v_number x1)).length + (cutStr v_number (some (x1 + (2 : Int))) none).length ≤ sizeLine) (lt ((((cutStr v_number none (some x1)) ++ (ixS v_number (x1 + (1 : Int)))) ++ (ixS v_number x1)) ++ (cutStr v_number (some (x1 + (2 : Int))) none)) fun v_other : Str => (grd (((!(v_other == v_number)) = true → (m_is_sound (eS v_other)).isOk = true)) (bif ((!(v_other == v_number)) && (m_is_sound (eS v_other)).get) then (grd (v_found.length < sizeLine) (lt (putA v_found v_other true) fun v_found : (List (Str × Bool)) => (.nx v_found))) else (.nx v_found)))))) : Ctl ((List (Str × Bool))) _ _) fun v_found => (grd (v_found.length < 64) (.rt (sortS (keysA v_found))))))))))) : Ctl Unit Unit (List Str))
@[reducible] def d_slips_of (ca : Nat → Addr) : DSp := fun rs L k x => ∃ (v_number : PyData), rs = [.dat (eD v_number)] ∧ AccR ca (m_slips_of v_number) (fun r => k (.dat ((eL eS) r)) L) fun c => x c L
noncomputable def m_kin_of (v_number : PyData) : Res (List Str) :=
  run ((grd ((m_is_number v_number).isOk = true) (callC (m_check_is (m_is_number v_number).get) fun _ => (grd (tyS.p v_number = true) (lt (tyS.f v_number) fun v_number : Str => (lt ([] : List Str) fun v_found : List Str => (grd (bnd (12 : Int)) (Ctl.bind (forC (rngI 0 (12 : Int)) (v_found : (List Str)) (fun (x1 : Int) (s : (List Str)) => match s with | v_found => (grd ((∀ x3 ∈ (sgns ("0123456789" : Str)), v_number.length ≤ sizeLine ∧ okIx v_number.cps.toList x1 ∧ ((!(x3 == (ixS v_number x1))) = true → v_number.length ≤ sizeLine ∧ (cutStr v_number none (some x1)).length + x3.length ≤ sizeLine ∧ ((cutStr v_number none (some x1)) ++ x3).length + (cutStr v_number (some (x1 + (1 : Int))) none).length ≤ sizeLine)) ∧ (sgns ("0123456789" : Str)).length < sizeLine) (lt (((sgns ("0123456789" : Str)).filter fun x3 : Str => (!(x3 == (ixS v_number x1)))).map fun x3 : Str => (((cutStr v_number none (some x1)) ++ x3) ++ (cutStr v_number (some (x1 + (1 : Int))) none))) fun v_others : (List Str) => (grd ((∀ x9 ∈ v_others, (m_is_sound (eS x9)).isOk = true) ∧ v_others.length < sizeLine ∧ v_found.length + ((v_others.filter fun x9 : Str => (m_is_sound (eS x9)).get).map fun x9 : Str => x9).length ≤ sizeLine) (lt (v_found ++ ((v_others.filter fun x9 : Str => (m_is_sound (eS x9)).get).map fun x9 : Str => x9)) fun v_found : List Str => (.nx v_found)))))) : Ctl ((List Str)) _ _) fun v_found => (.rt (sortS v_found))))))))) : Ctl Unit Unit (List Str))
@[reducible] def d_kin_of (ca : Nat → Addr) : DSp := fun rs L k x => ∃ (v_number : PyData), rs = [.dat (eD v_number)] ∧ AccR ca (m_kin_of v_number) (fun r => k (.dat ((eL eS) r)) L) fun c => x c L
noncomputable def m__law_sum (v_number : Str) : Res Int :=
  run ((lt (0 : Int) fun v_found : Int => (grd (v_number.length ≤ sizeLine ∧ bnd (v_number.length : Int)) (Ctl.bind (forC (rngI 0 (v_number.length : Int)) (v_found : Int) (fun (x1 : Int) (s : Int) => match s with | v_found => (grd (v_number.length ≤ sizeLine ∧ okIx v_number.cps.toList x1 ∧ okInt (ixS v_number x1) = true) (lt (intS (ixS v_number x1)) fun v_figure : Int => (Ctl.bind (bif (((x1 % (2 : Int)) == (0 : Int))) then (grd (okIx ([((2 : Int) * v_figure), (((2 : Int) * v_figure) - (9 : Int))] : List Int) (if (decide ((9 : Int) < ((2 : Int) * v_figure))) = true then 1 else 0)) (lt (ix ([((2 : Int) * v_figure), (((2 : Int) * v_figure) - (9 : Int))] : List Int) (if (decide ((9 : Int) < ((2 : Int) * v_figure))) = true then 1 else 0)) fun v_figure : Int => (.nx v_figure))) else (.nx v_figure) : Ctl (Int) _ _) fun v_figure => (lt (v_found + v_figure) fun v_found : Int => (.nx v_found)))))) : Ctl (Int) _ _) fun v_found => (.rt v_found)))) : Ctl Unit Unit Int)
@[reducible] def d__law_sum (ca : Nat → Addr) : DSp := fun rs L k x => ∃ (v_number : Str), rs = [.dat (eS v_number)] ∧ AccR ca (m__law_sum v_number) (fun r => k (.dat (eI r)) L) fun _ => False
noncomputable def m__law_is_sound (v_number : Str) : Res Bool :=
  run ((grd ((m__law_sum v_number).isOk = true) (.rt ((((m__law_sum v_number).get % (10 : Int)) == (0 : Int))))) : Ctl Unit Unit Bool)
@[reducible] def d__law_is_sound (ca : Nat → Addr) : DSp := fun rs L k x => ∃ (v_number : Str), rs = [.dat (eS v_number)] ∧ AccR ca (m__law_is_sound v_number) (fun r => k (.dat (eB r)) L) fun _ => False
noncomputable def m__law_check (v_figures : Str) : Res Str :=
  run ((grd ((∀ x1 ∈ (sgns ("0123456789" : Str)), v_figures.length + x1.length ≤ sizeLine ∧ (m__law_is_sound (v_figures ++ x1)).isOk = true) ∧ (sgns ("0123456789" : Str)).length < sizeLine ∧ okIx (((sgns ("0123456789" : Str)).filter fun x1 : Str => (m__law_is_sound (v_figures ++ x1)).get).map fun x1 : Str => x1) (0 : Int)) (.rt (ix (((sgns ("0123456789" : Str)).filter fun x1 : Str => (m__law_is_sound (v_figures ++ x1)).get).map fun x1 : Str => x1) (0 : Int)))) : Ctl Unit Unit Str)
@[reducible] def d__law_check (ca : Nat → Addr) : DSp := fun rs L k x => ∃ (v_figures : Str), rs = [.dat (eS v_figures)] ∧ AccR ca (m__law_check v_figures) (fun r => k (.dat (eS r)) L) fun _ => False
noncomputable def m__law_number (v_draws : List Nat) : Res (Str × List Nat) :=
  run ((grd (bnd (11 : Int) ∧ (∀ x1 ∈ (rngI 0 (11 : Int)), ∀ d6 : List Nat, ("0123456789" : Str).length + ("0909" : Str).length ≤ sizeLine ∧ (("0123456789" : Str) ++ ("0909" : Str)).length ≤ sizeLine ∧ sgns (("0123456789" : Str) ++ ("0909" : Str)) ≠ []) ∧ (rngI 0 (11 : Int)).length < sizeLine ∧ ((mapS (fun (x1 : Int) (d6 : List Nat) => ((pkV d6 (sgns (("0123456789" : Str) ++ ("0909" : Str)))), (tkD d6))) (rngI 0 (11 : Int)) v_draws).1.map (·.length)).sum + (mapS (fun (x1 : Int) (d6 : List Nat) => ((pkV d6 (sgns (("0123456789" : Str) ++ ("0909" : Str)))), (tkD d6))) (rngI 0 (11 : Int)) v_draws).1.length * ("" : Str).length ≤ 16777216) (lt (Txt.join ("" : Str) (mapS (fun (x1 : Int) (d6 : List Nat) => ((pkV d6 (sgns (("0123456789" : Str) ++ ("0909" : Str)))), (tkD d6))) (rngI 0 (11 : Int)) v_draws).1) fun v_figures : Str => (lt (mapS (fun (x1 : Int) (d6 : List Nat) => ((pkV d6 (sgns (("0123456789" : Str) ++ ("0909" : Str)))), (tkD d6))) (rngI 0 (11 : Int)) v_draws).2 fun v_draws : List Nat => (grd ((m__law_check v_figures).isOk = true ∧ ("0123456789" : Str).length ≤ sizeLine ∧ sgns ("0123456789" : Str) ≠ [] ∧ ([(m__law_check v_figures).get, (m__law_check v_figures).get, (pkV v_draws (sgns ("0123456789" : Str)))] : List Str) ≠ [] ∧ v_figures.length + (pkV (tkD v_draws) ([(m__law_check v_figures).get, (m__law_check v_figures).get, (pkV v_draws (sgns ("0123456789" : Str)))] : List Str)).length ≤ sizeLine) (.rt ((v_figures ++ (pkV (tkD v_draws) ([(m__law_check v_figures).get, (m__law_check v_figures).get, (pkV v_draws (sgns ("0123456789" : Str)))] : List Str))), (tkD (tkD v_draws)))))))) : Ctl Unit Unit (Str × List Nat))
@[reducible] def d__law_number (ca : Nat → Addr) : DSp := fun rs L k x => ∃ (v_draws : List Nat) (p_draws : Addr), rs = [.own p_draws] ∧ (p_draws, .lst (v_draws.map natD)) ∈ L ∧ AccR ca (m__law_number v_draws) (fun r => k (.dat (eS r.1)) (up L p_draws (.lst (r.2.map natD)))) fun _ => False
noncomputable def m__law_told (v_which : Int) (v_value : PyData) : Res PyData :=
  run ((tryB [0] (bif v_which == 0 then (callC (m_check_figure v_value) fun r => .rt (eS r)) else (bif v_which == 1 then (callC (m_sum_of v_value) fun r => .rt (eI r)) else (bif v_which == 2 then (callC (m_slips_of v_value) fun r => .rt ((eL eS) r)) else (bif v_which == 3 then (callC (m_kin_of v_value) fun r => .rt ((eL eS) r)) else .bad)))) fun cc => (.rt ((eL eB) (flV cc)))) : Ctl Unit Unit PyData)
@[reducible] def d__law_told (ca : Nat → Addr) : DSp := fun rs L k x => ∃ (v_which : Int) (v_value : PyData), rs = [.dat (eI v_which), .dat (eD v_value)] ∧ AccR ca (m__law_told v_which v_value) (fun r => k (.dat (eD r)) L) fun _ => False
noncomputable def m_law (v_draws : List Nat) : Res Bool :=
  run ((lt ([true, false, false, false, false] : List Bool) fun v_refused : (List Bool) => (grd (bnd (4 : Int)) (Ctl.bind (forC (rngI 0 (4 : Int)) (v_draws : (List Nat)) (fun (x1 : Int) (s : (List Nat)) => match s with | v_draws => (grd ((m__law_number v_draws).isOk = true) (lt (m__law_number v_draws).get.1 fun v_number : Str => (lt (m__law_number v_draws).get.2 fun v_draws : List Nat => (grd ((m__law_is_sound v_number).isOk = true) (lt (m__law_is_sound v_number).get fun v_sound : Bool => (grd (bnd (11 : Int) ∧ (∀ x3 ∈ (rngI 0 (11 : Int)), v_number.length ≤ sizeLine ∧ okIx v_number.cps.toList (x3 + (1 : Int)) ∧ (cutStr v_number none (some x3)).length + (ixS v_number (x3 + (1 : Int))).length ≤ sizeLine ∧ okIx v_number.cps.toList x3 ∧ ((cutStr v_number none (some x3)) ++ (ixS v_number (x3 + (1 : Int)))).length + (ixS v_number x3).length ≤ sizeLine ∧ (((cutStr v_number none (some x3)) ++ (ixS v_number (x3 + (1 : Int)))) ++ (ixS v_number x3)).length + (cutStr v_number (some (x3 + (2 : Int))) none).length ≤ sizeLine) ∧ (rngI 0 (11 : Int)).length < sizeLine) (lt ((rngI 0 (11 : Int)).map fun x3 : Int => ((((cutStr v_number none (some x3)) ++ (ixS v_number (x3 + (1 : Int)))) ++ (ixS v_number x3)) ++ (cutStr v_number (some (x3 + (2 : Int))) none))) fun v_swaps : (List Str) => (lt ((eL eB) v_refused) fun v_slips : PyData => (Ctl.bind (bif v_sound then (grd ((∀ x10 ∈ v_swaps, ((!(x10 == v_number)) = true → (m__law_is_sound x10).isOk = true)) ∧ v_swaps.length < sizeLine ∧ ((v_swaps.filter fun x10 : Str => ((!(x10 == v_number)) && (m__law_is_sound x10).get)).map fun x10 : Str => x10).length + 1 < scanBound) (lt ((eL eS) (usortS ((v_swaps.filter fun x10 : Str => ((!(x10 == v_number)) && (m__law_is_sound x10).get)).map fun x10 : Str => x10))) fun v_slips : PyData => (.nx v_slips))) else (.nx v_slips) : Ctl (PyData) _ _) fun v_slips => (lt ([] : (List Str)) fun v_kin : (List Str) => (grd (bnd (12 : Int)) (Ctl.bind (forC (rngI 0 (12 : Int)) (v_kin : (List Str)) (fun (x19 : Int) (s : (List Str)) => match s with | v_kin => (grd ((∀ x21 ∈ (sgns ("0123456789" : Str)), v_number.length ≤ sizeLine ∧ okIx v_number.cps.toList x19 ∧ ((!(x21 == (ixS v_number x19))) = true → v_number.length ≤ sizeLine ∧ (cutStr v_number none (some x19)).length + x21.length ≤ sizeLine ∧ ((cutStr v_number none (some x19)) ++ x21).length + (cutStr v_number (some (x19 + (1 : Int))) none).length ≤ sizeLine)) ∧ (sgns ("0123456789" : Str)).length < sizeLine ∧ v_kin.length + (((sgns ("0123456789" : Str)).filter fun x21 : Str => (!(x21 == (ixS v_number x19)))).map fun x21 : Str => (((cutStr v_number none (some x19)) ++ x21) ++ (cutStr v_number (some (x19 + (1 : Int))) none))).length ≤ sizeLine) (lt (v_kin ++ (((sgns ("0123456789" : Str)).filter fun x21 : Str => (!(x21 == (ixS v_number x19)))).map fun x21 : Str => (((cutStr v_number none (some x19)) ++ x21) ++ (cutStr v_number (some (x19 + (1 : Int))) none)))) fun v_kin : (List Str) => (.nx v_kin)))) : Ctl ((List Str)) _ _) fun v_kin => (grd (v_number.length ≤ sizeLine ∧ (m__law_check (cutStr v_number none (some (11 : Int)))).isOk = true ∧ (m__law_sum v_number).isOk = true ∧ (∀ x28 ∈ v_kin, (m__law_is_sound x28).isOk = true) ∧ v_kin.length < sizeLine) (lt ([(eS (m__law_check (cutStr v_number none (some (11 : Int)))).get), (eI (m__law_sum v_number).get), v_slips, ((eL eS) (sortS ((v_kin.filter fun x28 : Str => (m__law_is_sound x28).get).map fun x28 : Str => x28)))] : List PyData) fun v_due : (List PyData) => (grd (v_number.length ≤ sizeLine ∧ (m__law_told (0 : Int) (eS (cutStr v_number none (some (11 : Int))))).isOk = true ∧ (∀ x34 ∈ ([(1 : Int), (2 : Int), (3 : Int)] : List Int), (m__law_told x34 (eS v_number)).isOk = true) ∧ ([(1 : Int), (2 : Int), (3 : Int)] : List Int).length < sizeLine ∧ ([(m__law_told (0 : Int) (eS (cutStr v_number none (some (11 : Int))))).get] : List PyData).length + (([(1 : Int), (2 : Int), (3 : Int)] : List Int).map fun x34 : Int => (m__law_told x34 (eS v_number)).get).length ≤ sizeLine) (lt (([(m__law_told (0 : Int) (eS (cutStr v_number none (some (11 : Int))))).get] : List PyData) ++ (([(1 : Int), (2 : Int), (3 : Int)] : List Int).map fun x34 : Int => (m__law_told x34 (eS v_number)).get)) fun v_told : (List PyData) => (grd ((m_is_number (eS v_number)).isOk = true ∧ (m_is_sound (eS v_number)).isOk = true ∧ ([(eB (m_is_number (eS v_number)).get), (eB (m_is_sound (eS v_number)).get)] : List PyData).length + v_told.length ≤ sizeLine ∧ ([(eB true), (eB v_sound)] : List PyData).length + v_due.length ≤ sizeLine ∧ (m__law_same ((eL eD) (([(eB (m_is_number (eS v_number)).get), (eB (m_is_sound (eS v_number)).get)] : List PyData) ++ v_told)) ((eL eD) (([(eB true), (eB v_sound)] : List PyData) ++ v_due))).isOk = true) (bif (!(m__law_same ((eL eD) (([(eB (m_is_number (eS v_number)).get), (eB (m_is_sound (eS v_number)).get)] : List PyData) ++ v_told)) ((eL eD) (([(eB true), (eB v_sound)] : List PyData) ++ v_due))).get) then (.rt false) else (grd (v_swaps ≠ [] ∧ v_kin ≠ []) (Ctl.bind (forC ([(pkV v_draws v_swaps), (pkV (tkD v_draws) v_kin)] : List Str) ((tkD (tkD v_draws)) : (List Nat)) (fun (x41 : Str) (s : (List Nat)) => match s with | v_draws => (grd ((m_is_number (eS x41)).isOk = true ∧ (m_is_sound (eS x41)).isOk = true ∧ (m__law_told (1 : Int) (eS x41)).isOk = true ∧ (m__law_is_sound x41).isOk = true ∧ (m__law_sum x41).isOk = true ∧ (m__law_same ((eL eD) ([(eB (m_is_number (eS x41)).get), (eB (m_is_sound (eS x41)).get), (m__law_told (1 : Int) (eS x41)).get] : List PyData)) ((eL eD) ([(eB true), (eB (m__law_is_sound x41).get), (eI (m__law_sum x41).get)] : List PyData))).isOk = true) (bif (!(m__law_same ((eL eD) ([(eB (m_is_number (eS x41)).get), (eB (m_is_sound (eS x41)).get), (m__law_told (1 : Int) (eS x41)).get] : List PyData)) ((eL eD) ([(eB true), (eB (m__law_is_sound x41).get), (eI (m__law_sum x41).get)] : List PyData))).get) then (.rt false) else (.nx v_draws)))) : Ctl ((List Nat)) _ _) fun v_draws => (.nx v_draws)))))))))))))))))))))) : Ctl ((List Nat)) _ _) fun v_draws => (grd ((m__law_number v_draws).isOk = true) (lt (m__law_number v_draws).get.1 fun v_number : Str => (lt (m__law_number v_draws).get.2 fun v_draws : List Nat => (lt (tkV v_draws (12 : Int)) fun v_at : Int => (lt (tkD v_draws) fun v_draws : List Nat => (grd (v_number.length ≤ sizeLine ∧ ([("a" : Str), (" " : Str), ("?" : Str), ("-" : Str), ("." : Str)] : List Str) ≠ [] ∧ (cutStr v_number none (some v_at)).length + (pkV v_draws ([("a" : Str), (" " : Str), ("?" : Str), ("-" : Str), ("." : Str)] : List Str)).length ≤ sizeLine ∧ ((cutStr v_number none (some v_at)) ++ (pkV v_draws ([("a" : Str), (" " : Str), ("?" : Str), ("-" : Str), ("." : Str)] : List Str))).length + (cutStr v_number (some (v_at + (1 : Int))) none).length ≤ sizeLine) (lt (((cutStr v_number none (some v_at)) ++ (pkV v_draws ([("a" : Str), (" " : Str), ("?" : Str), ("-" : Str), ("." : Str)] : List Str))) ++ (cutStr v_number (some (v_at + (1 : Int))) none)) fun v_bent : Str => (lt (tkD v_draws) fun v_draws : List Nat => (grd (v_number.length ≤ sizeLine ∧ v_number.length + ("0" : Str).length ≤ sizeLine ∧ okInt v_number = true ∧ (cutStr v_number none (some v_at)).length + (cutStr v_number (some (v_at + (1 : Int))) none).length ≤ sizeLine) (Ctl.bind (forC ([(eS (cutStr v_number none (some (11 : Int)))), (eS (v_number ++ ("0" : Str))), (eS v_bent), (eS ("" : Str)), (eN ()), (eI (intS v_number)), (eB true), ((eT eS) ([v_number] : List Str)), ((eL eS) ([v_number] : List Str)), (eS ((cutStr v_number none (some v_at)) ++ (cutStr v_number (some (v_at + (1 : Int))) none)))] : List PyData) (() : Unit) (fun (x55 : PyData) (s : Unit) => match s with | _ => (grd ((m_is_number x55).isOk = true ∧ (m_is_sound x55).isOk = true ∧ (m__law_told (1 : Int) x55).isOk = true ∧ (m__law_told (2 : Int) x55).isOk = true ∧ (m__law_told (3 : Int) x55).isOk = true ∧ (m__law_same ((eL eD) ([(eB (m_is_number x55).get), (eB (m_is_sound x55).get), (m__law_told (1 : Int) x55).get, (m__law_told (2 : Int) x55).get, (m__law_told (3 : Int) x55).get] : List PyData)) ((eL eD) ([(eB false), (eB false), ((eL eB) v_refused), ((eL eB) v_refused), ((eL eB) v_refused)] : List PyData))).isOk = true) (bif (!(m__law_same ((eL eD) ([(eB (m_is_number x55).get), (eB (m_is_sound x55).get), (m__law_told (1 : Int) x55).get, (m__law_told (2 : Int) x55).get, (m__law_told (3 : Int) x55).get] : List PyData)) ((eL eD) ([(eB false), (eB false), ((eL eB) v_refused), ((eL eB) v_refused), ((eL eB) v_refused)] : List PyData))).get) then (.rt false) else (.nx ())))) : Ctl (Unit) _ _) fun _ => (grd (v_number.length ≤ sizeLine ∧ ("a" : Str).length + (cutStr v_number none (some (10 : Int))).length ≤ sizeLine) (Ctl.bind (forC ([(eS v_number), (eS (cutStr v_number none (some (10 : Int)))), (eS (("a" : Str) ++ (cutStr v_number none (some (10 : Int))))), (eN ()), (.tuple [] : PyData), (eI (31812643017 : Int))] : List PyData) (() : Unit) (fun (x61 : PyData) (s : Unit) => match s with | _ => (grd ((m__law_told (0 : Int) x61).isOk = true ∧ (m__law_same (m__law_told (0 : Int) x61).get ((eL eB) v_refused)).isOk = true) (bif (!(m__law_same (m__law_told (0 : Int) x61).get ((eL eB) v_refused)).get) then (.rt false) else (.nx ())))) : Ctl (Unit) _ _) fun _ => (grd ((m_check_figure (eS ("31812643017" : Str))).isOk = true ∧ (m_sum_of (eS ("318126430178" : Str))).isOk = true ∧ (m_slips_of (eS ("090000000001" : Str))).isOk = true ∧ (m__law_same ((eL eD) ([(eS (m_check_figure (eS ("31812643017" : Str))).get), (eI (m_sum_of (eS ("318126430178" : Str))).get), ((eL eS) (m_slips_of (eS ("090000000001" : Str))).get)] : List PyData)) ((eL eD) ([(eS ("8" : Str)), (eI (50 : Int)), ((eL eS) ([("009000000001" : Str), ("900000000001" : Str)] : List Str))] : List PyData))).isOk = true) (.rt (m__law_same ((eL eD) ([(eS (m_check_figure (eS ("31812643017" : Str))).get), (eI (m_sum_of (eS ("318126430178" : Str))).get), ((eL eS) (m_slips_of (eS ("090000000001" : Str))).get)] : List PyData)) ((eL eD) ([(eS ("8" : Str)), (eI (50 : Int)), ((eL eS) ([("009000000001" : Str), ("900000000001" : Str)] : List Str))] : List PyData))).get))))))))))))))))) : Ctl Unit Unit Bool)
end W03

set_option Elab.async false
set_option linter.all false
set_option maxRecDepth 100000
set_option maxHeartbeats 4000000
namespace W03
open PySem PySem.Spec PyProof.Rows L2 Z Y
local macro_rules | `(tactic| walk_at "z") => `(tactic| first
  | ((with_reducible show HS _ _ _ _ _); (first
    | with_reducible refine hs_seq ?_
    | with_reducible refine hs_asg ?_
    | refine hs_asgT2 ?_
    | with_reducible refine hs_ret ?_
    | with_reducible refine hs_if ?_
    | with_reducible refine hs_drop ?_
    | with_reducible refine hs_next ?_
    | with_reducible refine hs_par ?_
    | with_reducible refine hs_par3 ?_
    | ((with_reducible refine hs_aug (x := ?zx) ?zh ?_); (case zh => exact rfl))
    ))
  | ((with_reducible show CP _ _ _ _ _); (first
    | ((with_reducible refine cp_var (r := ?zr) ?zh ?_); (case zh => exact rfl))
    | with_reducible refine cp_int ?_
    | with_reducible refine cp_str ?_
    | with_reducible refine cp_bl ?_
    | with_reducible refine cp_non ?_
    | with_reducible refine cp_ref ?_
    | with_reducible refine cp_ty ?_
    | with_reducible refine cp_op ?_
    | with_reducible refine cp_un ?_
    | with_reducible refine cp_cb ?_
    | with_reducible refine cp_andV ?_
    | with_reducible refine cp_orV ?_
    | with_reducible refine cp_notV ?_
    | with_reducible refine cp_if ?_
    | with_reducible refine cp_call ?_
    | with_reducible refine cp_callS ?_
    | with_reducible refine cp_chain ?_
    | with_reducible refine cp_sl ?_
    | with_reducible refine cp_lst ?_
    | with_reducible refine cp_tup ?_
    | refine cp_bm ?_
    | refine cp_bm0 ?_
    ))
  | ((with_reducible show CA _ _ _ _ _); (first
    | with_reducible refine ca_nil ?_
    | with_reducible refine ca_cons ?_
    ))
  | ((with_reducible show CT _ _ _ _ _); (first
    | with_reducible refine ct_test ?_
    | with_reducible refine ct_b ?_
    | with_reducible refine ct_and ?_
    | with_reducible refine ct_or ?_
    | with_reducible refine ct_not ?_
    | with_reducible refine ct_yes ?_
    ))
  | ((with_reducible show OD _ _ _ _ _ _); (first
    | refine od_ip_add ?_
    | refine od_ip_sub ?_
    | refine od_add_int ?_
    | refine od_sub ?_
    | refine od_lt_int ?_
    | refine od_gt ?_
    | refine od_le ?_
    | refine od_ge ?_
    | refine od_eq_int ?_
    | refine od_eq_str ?_
    | refine od_eq_bool ?_
    | refine od_ne_int ?_
    | refine od_ne_str ?_
    | refine od_ne_bool ?_
    | refine od_mod (by decide) ?_
    | refine od_pow ⟨by decide, by decide, by decide⟩ ?_
    | refine od_fdiv ⟨by decide, by decide⟩ ?_
    | refine od_mulY_int (.inr ⟨by decide, by decide⟩) ?_
    | refine od_mulY_int (.inl ⟨by decide, by decide⟩) ?_
    | refine od_in_sign ?_
    | refine od_notIn_sign ?_
    | refine od_is_bool ?_
    | refine od_isNot_bool ?_
    | refine od_is_none ?_
    | refine od_isNot_none ?_
    ))
  | ((with_reducible show CD _ _ _ _ _); (first
    | refine cd_tup_lst ?_
    | refine cd_list_tup ?_
    | refine cd_list_lst ?_
    | refine cd_max2 ?_
    | refine cd_len_lst ?_
    | refine cd_len_tup ?_
    | refine cd_int_int ?_
    | refine cd_int_bool ?_
    | refine cd_abs ?_
    | refine cd_neg ?_
    | refine cd_isi (by decide) ?_
    ))
  | ((with_reducible show CG _ _ _ _ _ _); (first
    | with_reducible refine cg_name ?_
    | refine cg_tup2 ?_
    ))
  | ((with_reducible show SD _ _ _ _ _ _ _); (first
    | refine sd_tup ?_
    | refine sd_lst ?_
    ))
  | ((with_reducible show CO _ _ _ _ _); (first
    | with_reducible refine co_none ?_
    | with_reducible refine co_some ?_
    ))
  | ((fail_if_success (with_reducible show HS _ _ _ _ _)); (fail_if_success (with_reducible show CP _ _ _ _ _)); (fail_if_success (with_reducible show OD _ _ _ _ _ _)); (fail_if_success (with_reducible show CD _ _ _ _ _)); (fail_if_success (with_reducible show CA _ _ _ _ _)); (fail_if_success (with_reducible show CT _ _ _ _ _)); (fail_if_success (with_reducible show CG _ _ _ _ _ _)); (fail_if_success (with_reducible show ite _ _ _)); (first
    | refine ⟨_, _, _, rfl, ?_⟩
    | refine ⟨_, rfl, ?_⟩
    | refine ⟨_, _, rfl, ?_⟩
    | refine ⟨[], rfl, szl _ (Nat.le_trans (Nat.le_of_eq (show _ = 0 from rfl)) (by decide)), ?_⟩
    | refine ⟨[_], rfl, szl _ (Nat.le_trans (Nat.le_of_eq (show _ = 1 from rfl)) (by decide)), ?_⟩
    | refine ⟨[_, _], rfl, szl _ (Nat.le_trans (Nat.le_of_eq (show _ = 2 from rfl)) (by decide)), ?_⟩
    | refine ⟨[_, _, _], rfl, szl _ (Nat.le_trans (Nat.le_of_eq (show _ = 3 from rfl)) (by decide)), ?_⟩
    | refine ⟨[_, _, _, _], rfl, szl _ (Nat.le_trans (Nat.le_of_eq (show _ = 4 from rfl)) (by decide)), ?_⟩
    | refine ⟨[_, _, _, _, _], rfl, szl _ (Nat.le_trans (Nat.le_of_eq (show _ = 5 from rfl)) (by decide)), ?_⟩
    | refine ⟨[_, _, _, _, _, _], rfl, szl _ (Nat.le_trans (Nat.le_of_eq (show _ = 6 from rfl)) (by decide)), ?_⟩
    | refine ⟨[_, _, _, _, _, _, _], rfl, szl _ (Nat.le_trans (Nat.le_of_eq (show _ = 7 from rfl)) (by decide)), ?_⟩
    | refine ⟨[_, _, _, _, _, _, _, _], rfl, szl _ (Nat.le_trans (Nat.le_of_eq (show _ = 8 from rfl)) (by decide)), ?_⟩
    | refine ⟨[_, _, _, _, _, _, _, _, _], rfl, szl _ (Nat.le_trans (Nat.le_of_eq (show _ = 9 from rfl)) (by decide)), ?_⟩
    ))
  | ((with_reducible show ite _ _ _); (first
    | with_reducible refine ite_t ?_
    | refine ite_t ?_
    | refine ite_f ?_
    ))
  | ((with_reducible show And _ _); (first
    | refine ⟨(show rsTy _ (Rs.own _) _ from ⟨_, (by first | exact plus_mem | assumption), rfl⟩), ?_⟩
    | refine ⟨(show rsTy _ (Rs.dat _) _ from ⟨rfl, by decide⟩), ?_⟩
    )))
def top (i : Nat) : Stmt := PySem.Challenge.pw_humpyard_k03_whole_numbers_of_wagons.main.body.getD i (.Pass ⟨0, 0, 0, 0⟩)
section
variable {P : Program} {w : World} {K : PySem.W.Frag} {mg : Str → Option Value} {base : Heap}
abbrev s__law_take : Stmt := top 22
theorem sc__law_take : FnScope ["draws", "bound"] ["draws", "bound"] (defScope s__law_take) := ⟨rfl, rfl, rfl, by decide +kernel, rfl, by decide +kernel, by decide +kernel⟩
abbrev ps__law_take : List Str := ["draws", "bound"]
theorem ok__law_take {f : Addr} {fd : FuncData} (D : DefAt K mg "_law_take" s__law_take ps__law_take f fd) (B_len : mg "len" = none) (B_int : mg "int" = none) : Has P w K mg base 1 "_law_take" ps__law_take d_take := by
  refine ⟨f, fd, D.g, D.F.kp, D.b, fn_z D.F sc__law_take (fun rs L k x h => ?_) fun cdv A outer s H E hr => ?_⟩
  · obtain ⟨ds, p, b, rfl, _⟩ := h
    rfl
  · have nd := sc__law_take.nd
    refine ⟨_, (pss_cons (ps_if (pt_cmpR (op_eqZ hr.units) (pe_callB call_lenZ (by rfl) B_len (by decide +kernel) (pa_cons (pv 0) pa_nil)) pe_int (nomark _)) (pss_one (ps_ret pe_int)) pss_nil)
    (pss_one (ps_ret (pe_op op_mod (pe_callTy call_intZ (by rfl) B_int (by decide +kernel) (pa_cons (pe_bm0 PySem.F.plainAttrs_list PySem.F.slot_list_pop PySem.F.type_list_pop mt_pop (pv 0)) pa_nil)) (pv 1))))), fun rs L q x h => ?_⟩
    obtain ⟨ds, l, b, rfl, m, hb, hq⟩ := h
    refine hs_base m ?_
    have mm := mem_up (L := L) (a := l) (m := .lst (ds.map natD)) (Led.key m)
    repeat walk_at "z"
    refine cd_len_own mm ?_
    repeat walk_at "z"
    refine ite_b (fun hc => ?_) fun hc => ?_
    · have he : ds = [] := by simpa using hc
      subst he
      repeat walk_at "z"
      exact ⟨_, _, wk_refl, .dat _, keeps_up, hq⟩
    · have hne : ds ≠ [] := fun z => by
        subst z
        simp at hc
      obtain ⟨n, hn⟩ : ∃ n, ds.getLast? = some n := by
        cases e : ds.getLast? with
        | none => exact absurd (List.getLast?_eq_none_iff.mp e) hne
        | some n => exact ⟨n, rfl⟩
      have hv : tkV ds b = (n : Int) % b := by
        unfold tkV
        rw [hn]
      rw [hv] at hq
      repeat walk_at "z"
      refine md_pop mm (d := natD n) ?_ ?_
      · rw [List.length_map, List.getElem?_map, ← List.getLast?_eq_getElem?, hn]
        rfl
      · rw [← List.map_dropLast, up_up]
        repeat walk_at "z"
        refine od_mod hb ?_
        exact ⟨_, _, wk_refl, .dat _, keeps_up, hq⟩
abbrev s__law_pick : Stmt := top 23
theorem sc__law_pick : FnScope ["draws", "some"] ["draws", "some"] (defScope s__law_pick) := ⟨rfl, rfl, rfl, by decide +kernel, rfl, by decide +kernel, by decide +kernel⟩
abbrev ps__law_pick : List Str := ["draws", "some"]
theorem ok__law_pick {f : Addr} {fd : FuncData} (D : DefAt K mg "_law_pick" s__law_pick ps__law_pick f fd) (B_len : mg "len" = none) (H_take : Has P w K mg base 1 "_law_take" ps__law_take d_take) : Has P w K mg base 2 "_law_pick" ps__law_pick d_pick := by
  obtain ⟨_, _, g__law_take, kp__law_take, b__law_take, G__law_take⟩ := H_take
  refine ⟨f, fd, D.g, D.F.kp, D.b, fn_z D.F sc__law_pick (fun rs L k x h => ?_) fun cdv A outer s H E hr => ?_⟩
  · obtain ⟨ds, p, s, _, rfl, _⟩ := h
    rfl
  · have nd := sc__law_pick.nd
    refine ⟨_, (pss_one (ps_ret (pe_ix ix_seq (pv 1) (pe_call G__law_take (hr.mono (by first | decide | omega)) (by rfl) g__law_take kp__law_take b__law_take .nil pass0 (pa_cons (pv 0) (pa_cons (pe_callB call_lenZ (by rfl) B_len (by decide +kernel) (pa_cons (pv 1) pa_nil)) pa_nil))) (fun _ _ => rfl)))), fun rs L q x h => ?_⟩
    obtain ⟨ds, l, s, m, rfl, hl, hs, hne, hq⟩ := h
    have hp : (0 : Int) < (itemsD s).length := by
      have := List.length_pos_iff.mpr hne
      omega
    have hok := pk_ok (ds := ds) hne
    cases s with
    | list xs =>
      repeat walk_at "z"
      refine ⟨ds, l, _, rfl, m, hp, ?_⟩
      have e := atI_ix (xs := xs) hok (fun x : PyData => x)
      rw [List.map_id'] at e
      exact od_ix_lst e ⟨_, _, wk_refl, .dat _, keeps_up, hq⟩
    | tuple xs =>
      repeat walk_at "z"
      refine ⟨ds, l, _, rfl, m, hp, ?_⟩
      have e := atI_ix (xs := xs) hok (fun x : PyData => x)
      rw [List.map_id'] at e
      exact od_ix_tup e ⟨_, _, wk_refl, .dat _, keeps_up, hq⟩
    | str z =>
      have hz : z.length ≤ sizeLine := of_decide_eq_true hl
      have hzl : ((itemsD (.str z)).length : Int) = (z.length : Int) := by
        show ((z.cps.toList.map sgn).length : Int) = _
        rw [List.length_map, Array.length_toList]
        rfl
      repeat walk_at "z"
      refine cd_len_str hz ?_
      repeat walk_at "z"
      refine ⟨ds, l, _, rfl, m, by rw [hzl] at hp; exact hp, ?_⟩
      have e : atI (z.cps.toList.map sgn) (tkV ds (itemsD (.str z)).length) = some (pkV ds (itemsD (.str z))) := by
        have e := atI_ix (xs := itemsD (.str z)) hok (fun x : PyData => x)
        rw [List.map_id'] at e
        exact e
      rw [atI_map, hzl] at e
      cases ea : atI z.cps.toList (tkV ds (z.length : Int)) with
      | none =>
        rw [ea] at e
        cases e
      | some c =>
        rw [ea] at e
        have e := Option.some.inj e
        refine od_ix_str hz ea ?_
        rw [← e] at hq
        exact ⟨_, _, wk_refl, .dat _, keeps_up, hq⟩
    | _ => cases hs
abbrev s__law_draws : Stmt := top 21
theorem sc__law_draws : FnScope ["script", "draws", "seed", "cell", "number", "k"] ["script"] (defScope s__law_draws) := ⟨rfl, rfl, rfl, by decide +kernel, rfl, by decide +kernel, by decide +kernel⟩
abbrev ps__law_draws : List Str := ["script"]
theorem ok__law_draws {f : Addr} {fd : FuncData} (D : DefAt K mg "_law_draws" s__law_draws ps__law_draws f fd) (B_int : mg "int" = none) (B_abs : mg "abs" = none) (B_range : mg "range" = none) (B_list : mg "list" = none) (B_reversed : mg "reversed" = none) : Has P w K mg base 1 "_law_draws" ps__law_draws d_draws := by
  refine ⟨f, fd, D.g, D.F.kp, D.b, fn_z D.F sc__law_draws (fun rs L k x h => ?_) fun cdv A outer s H E hr => ?_⟩
  · obtain ⟨ns, rfl, _⟩ := h
    rfl
  · have nd := sc__law_draws.nd
    refine ⟨_, (pss_cons (ps_set (i := 1) nd rfl (by first | exact .inl rfl | exact .inr rfl) (pe_lst pa_nil))
    (pss_cons (ps_set (i := 2) nd rfl (by first | exact .inl rfl | exact .inr rfl) pe_int)
    (pss_cons (ps_for PassesOwn.never rfl (pi_sq (pv 0)) (pg_name (i := 3) nd rfl (by first | exact .inl rfl | exact .inr rfl))
      (pss_cons (ps_set (i := 4) nd rfl (by first | exact .inl rfl | exact .inr rfl) (pe_callB call_abs (by rfl) B_abs (by decide +kernel) (pa_cons (pe_callTy call_intZ (by rfl) B_int (by decide +kernel) (pa_cons (pv 3) pa_nil)) pa_nil)))
      (pss_cons (ps_set (i := 2) nd rfl (by first | exact .inl rfl | exact .inr rfl) (pe_op op_mod (pe_callTy call_intZ (by rfl) B_int (by decide +kernel) (pa_cons (pe_op op_addZ (pe_op op_addZ (pe_op op_mulY (pv 2) pe_int) (pv 4)) pe_int) pa_nil)) pe_int))
      (pss_cons (ps_if (pt_cmpR op_ltZ (pv 4) (pe_op op_pow pe_int pe_int) (nomark _)) (pss_cons (ps_expr (pe_bm PySem.F.plainAttrs_list PySem.F.slot_list_append PySem.F.type_list_append mt_append (pv 1) (pa_cons (pe_op op_mod (pe_callTy call_intZ (by rfl) B_int (by decide +kernel) (pa_cons (pv 4) pa_nil)) pe_int) pa_nil)))
        (pss_cons (ps_expr (pe_bm PySem.F.plainAttrs_list PySem.F.slot_list_append PySem.F.type_list_append mt_append (pv 1) (pa_cons (pe_op op_mod (pe_callTy call_intZ (by rfl) B_int (by decide +kernel) (pa_cons (pv 2) pa_nil)) pe_int) pa_nil)))
        (pss_one (ps_set (i := 4) nd rfl (by first | exact .inl rfl | exact .inr rfl) pe_int)))) pss_nil)
      (pss_one (ps_for PassesOwn.never rfl (pi_range1 (by rfl) B_range (pa_cons pe_int pa_nil)) (pg_name (i := 5) nd rfl (by first | exact .inl rfl | exact .inr rfl))
        (pss_one (ps_if (pt_cmpR op_gtZ (pv 4) pe_int (nomark _)) (pss_cons (ps_expr (pe_bm PySem.F.plainAttrs_list PySem.F.slot_list_append PySem.F.type_list_append mt_append (pv 1) (pa_cons (pe_op op_mod (pe_callTy call_intZ (by rfl) B_int (by decide +kernel) (pa_cons (pv 4) pa_nil)) pe_int) pa_nil)))
          (pss_one (ps_set (i := 4) nd rfl (by first | exact .inl rfl | exact .inr rfl) (pe_op op_fdivW (pv 4) pe_int)))) pss_nil))))))))
    (pss_cons (ps_for PassesOwn.never rfl (pi_range1 (by rfl) B_range (pa_cons pe_int pa_nil)) (pg_name (i := 5) nd rfl (by first | exact .inl rfl | exact .inr rfl))
      (pss_cons (ps_set (i := 2) nd rfl (by first | exact .inl rfl | exact .inr rfl) (pe_op op_mod (pe_callTy call_intZ (by rfl) B_int (by decide +kernel) (pa_cons (pe_op op_addZ (pe_op op_mulY (pv 2) pe_int) pe_int) pa_nil)) pe_int))
      (pss_one (ps_expr (pe_bm PySem.F.plainAttrs_list PySem.F.slot_list_append PySem.F.type_list_append mt_append (pv 1) (pa_cons (pe_op op_fdivW (pv 2) pe_int) pa_nil))))))
    (pss_one (ps_ret (pe_lrev rfl (by rfl) B_list (by rfl) B_reversed (pv 1)))))))), fun rs L q x h => ?_⟩
    obtain ⟨ns, rfl, hn, hq⟩ := h
    refine hs_seq ?_
    refine hs_asg ?_
    refine cp_lstO ?_
    refine ca_nil ?_
    refine ⟨[], rfl, szl _ (by decide), fun p hp => ?_⟩
    repeat walk_at "z"
    refine hs_for ?_
    refine ci_sq ?_
    refine cp_var rfl ?_
    refine ⟨_, .scr ns, fun i ε' L' => ∃ (ms : List Nat) (s : Int) (c nm kk : Option Rs), 0 ≤ s ∧ ms.length ≤ 62 * i ∧ ε' = [some (.scr ns), some (.own p), some (.dat (.int s)), c, nm, kk] ∧ L' = plus L p (ms.map natD), ⟨[], 11, _, _, _, by decide, Nat.zero_le _, rfl, rfl⟩, ?_, ?_⟩
    · rintro i d ε' L' hd ⟨ms, s, c, nm, kk, hs, hl, rfl, rfl⟩
      obtain ⟨n, hn', rfl⟩ := map_get hd
      refine cg_name ?_
      repeat walk_at "z"
      have hN : 0 ≤ (if n < 0 then -n else n) := by split <;> omega
      generalize (if n < 0 then -n else n) = N at hN ⊢
      have hS : 0 ≤ (s * 48271 + N + 1) % 2147483647 := Int.emod_nonneg _ (by decide)
      generalize (s * 48271 + N + 1) % 2147483647 = S at hS ⊢
      have hi : i < ns.length := (List.getElem?_eq_some_iff.mp hn').1
      refine hs_join (fun ε' L' => ∃ (ms : List Nat) (N : Int), 0 ≤ N ∧ ms.length ≤ 62 * i + 2 ∧ ε' = [some (.scr ns), some (.own p), some (.dat (.int S)), some (.dat (.int n)), some (.dat (.int N)), kk] ∧ L' = plus L p (ms.map natD)) (ite_b (fun hc => ?_) fun hc => ?_) ?_
      · repeat walk_at "z"
        refine md_append plus_mem (sz _ (by rw [List.length_map]; omega)) ?_
        rw [up_plus hp, natD_app ms (Int.emod_nonneg _ (by decide))]
        repeat walk_at "z"
        refine md_append plus_mem (sz _ (by rw [List.length_map, List.length_append, List.length_singleton]; omega)) ?_
        rw [up_plus hp, natD_app _ (Int.emod_nonneg _ (by decide))]
        repeat walk_at "z"
        exact ⟨_, 0, Int.le_refl 0, by rw [List.length_append, List.length_append, List.length_singleton, List.length_singleton]; omega, rfl, rfl⟩
      · repeat walk_at "z"
        exact ⟨ms, N, hN, by omega, rfl, rfl⟩
      · rintro ε' L' ⟨ms, N, hN, hl, rfl, rfl⟩
        refine hs_for ?_
        refine ci_range1 ?_
        repeat walk_at "z"
        refine ⟨by decide, fun j ε' L' => ∃ (ms : List Nat) (N : Int) (kk : Option Rs), 0 ≤ N ∧ ms.length ≤ 62 * i + 2 + j ∧ ε' = [some (.scr ns), some (.own p), some (.dat (.int S)), some (.dat (.int n)), some (.dat (.int N)), kk] ∧ L' = plus L p (ms.map natD), ⟨ms, N, _, hN, hl, rfl, rfl⟩, ?_, ?_⟩
        · rintro j d ε' L' hd ⟨ms, N, kk, hN, hl, rfl, rfl⟩
          obtain ⟨rfl, hj⟩ := rng_get hd
          have hj' : j < 60 := hj
          refine cg_name ?_
          repeat walk_at "z"
          refine ite_b (fun hc => ?_) fun hc => ?_
          · repeat walk_at "z"
            refine md_append plus_mem (sz _ (by rw [List.length_map]; omega)) ?_
            rw [up_plus hp, natD_app _ (Int.emod_nonneg _ (by decide))]
            repeat walk_at "z"
            exact ⟨_, _, _, Int.ediv_nonneg hN (by decide), by rw [List.length_append, List.length_singleton]; omega, rfl, rfl⟩
          · repeat walk_at "z"
            exact ⟨ms, N, _, hN, by omega, rfl, rfl⟩
        · rintro ε' L' ⟨ms, N, kk, hN, hl, rfl, rfl⟩
          rw [rng_len] at hl
          have hl' : ms.length ≤ 62 * i + 2 + 60 := hl
          exact ⟨ms, S, _, _, _, hS, by omega, rfl, rfl⟩
    · rintro ε' L' ⟨ms, s, c, nm, kk, hs, hl, rfl, rfl⟩
      rw [List.length_map] at hl
      repeat walk_at "z"
      refine hs_for ?_
      refine ci_range1 ?_
      repeat walk_at "z"
      refine ⟨by decide, fun j ε' L' => ∃ (ms : List Nat) (s : Int) (kk : Option Rs), 0 ≤ s ∧ ms.length ≤ 62 * 63 + j ∧ ε' = [some (.scr ns), some (.own p), some (.dat (.int s)), c, nm, kk] ∧ L' = plus L p (ms.map natD), ⟨ms, s, _, hs, by omega, rfl, rfl⟩, ?_, ?_⟩
      · rintro j d ε' L' hd ⟨ms, s, kk, hs, hl, rfl, rfl⟩
        obtain ⟨rfl, hj⟩ := rng_get hd
        have hj' : j < 300 := hj
        refine cg_name ?_
        repeat walk_at "z"
        have hS : 0 ≤ (s * 48271 + 69621) % 2147483647 := Int.emod_nonneg _ (by decide)
        refine md_append plus_mem (sz _ (by rw [List.length_map]; omega)) ?_
        rw [up_plus hp, natD_app _ (Int.ediv_nonneg hS (by decide))]
        repeat walk_at "z"
        exact ⟨_, _, _, hS, by rw [List.length_append, List.length_singleton]; omega, rfl, rfl⟩
      · rintro ε' L' ⟨ms, s, kk, hs, hl, rfl, rfl⟩
        repeat walk_at "z"
        refine cp_lrev (a := p) (ds := ms.map natD) ?_
        repeat walk_at "z"
        refine ⟨rfl, plus_mem, fun p2 hp2 => ?_⟩
        rw [← List.map_reverse]
        exact ⟨_, _, wk_of_sub (List.Sublist.append (List.sublist_append_left _ _) (List.Sublist.refl _)), .own (Led.key plus_mem), keeps_own, hq p2 ms.reverse fun z => hp2 (keeps_own _ z)⟩
abbrev s__law_same : Stmt := top 24
theorem sc__law_same : FnScope ["actual", "due", "k", "key"] ["actual", "due"] (defScope s__law_same) := ⟨rfl, rfl, rfl, by decide +kernel, rfl, by decide +kernel, by decide +kernel⟩
abbrev ps__law_same : List Str := ["actual", "due"]
theorem ok__law_same {f : Addr} {fd : FuncData} (D : DefAt K mg "_law_same" s__law_same ps__law_same f fd) (B_len : mg "len" = none) (B_range : mg "range" = none) (B_isinstance : mg "isinstance" = none) (B_tuple : mg "tuple" = none) (B_list : mg "list" = none) (B_dict : mg "dict" = none) (B_bool : mg "bool" = none) (B_int : mg "int" = none) (B_str : mg "str" = none) :
    ∀ n, Has P w K mg base n "_law_same" ps__law_same (dSame n)
  | 0 => ⟨f, fd, D.g, D.F.kp, D.b, ⟨fun vs H Q E h => by
      obtain ⟨_, _, _, _, _, _, h, _⟩ := h
      exact h.elim, fun A outer s H args us vs Q E _ _ _ _ h => by
      obtain ⟨_, _, _, _, _, _, h, _⟩ := h
      exact h.elim⟩⟩
  | n + 1 => by
    obtain ⟨_, _, g__law_same, kp__law_same, b__law_same, G__law_same⟩ := ok__law_same D B_len B_range B_isinstance B_tuple B_list B_dict B_bool B_int B_str n
    refine ⟨f, fd, D.g, D.F.kp, D.b, fn_z D.F sc__law_same (fun rs L k x h => ?_) fun cdv A outer s H E hr => ?_⟩
    · obtain ⟨d, rfl, _⟩ := h
      rfl
    · have nd := sc__law_same.nd
      refine ⟨_, (pss_cons (ps_if (pt_cmpR op_isZ (pv 1) pe_non (nomark _)) (pss_one (ps_ret (pe_cmpR op_isZ (pv 0) pe_non (nomark _)))) pss_nil)
    (pss_cons (ps_if (PW.pt (pw_or (pt_val (pe_callB call_isi (by rfl) B_isinstance (by decide +kernel) (pa_cons (pv 1) (pa_cons (pe_bltn (v := .ty "tuple") (by rfl) B_tuple (by decide +kernel) rfl) pa_nil)))) (pw_or1 (pt_val (pe_callB call_isi (by rfl) B_isinstance (by decide +kernel) (pa_cons (pv 1) (pa_cons (pe_bltn (v := .ty "list") (by rfl) B_list (by decide +kernel) rfl) pa_nil))))))) (pss_cons (ps_if (PW.pt (pw_or (pt_cmpR (op_neZ hr.units) (pe_callB call_isi (by rfl) B_isinstance (by decide +kernel) (pa_cons (pv 1) (pa_cons (pe_bltn (v := .ty "tuple") (by rfl) B_tuple (by decide +kernel) rfl) pa_nil))) (pe_callB call_isi (by rfl) B_isinstance (by decide +kernel) (pa_cons (pv 0) (pa_cons (pe_bltn (v := .ty "tuple") (by rfl) B_tuple (by decide +kernel) rfl) pa_nil))) (nomark _)) (pw_or1 (pt_cmpR (op_neZ hr.units) (pe_callB call_isi (by rfl) B_isinstance (by decide +kernel) (pa_cons (pv 1) (pa_cons (pe_bltn (v := .ty "list") (by rfl) B_list (by decide +kernel) rfl) pa_nil))) (pe_callB call_isi (by rfl) B_isinstance (by decide +kernel) (pa_cons (pv 0) (pa_cons (pe_bltn (v := .ty "list") (by rfl) B_list (by decide +kernel) rfl) pa_nil))) (nomark _))))) (pss_one (ps_ret pe_bl)) pss_nil)
      (pss_cons (ps_if (pt_cmpR (op_neZ hr.units) (pe_callB call_lenZ (by rfl) B_len (by decide +kernel) (pa_cons (pv 0) pa_nil)) (pe_callB call_lenZ (by rfl) B_len (by decide +kernel) (pa_cons (pv 1) pa_nil)) (nomark _)) (pss_one (ps_ret pe_bl)) pss_nil)
      (pss_cons (ps_for PassesOwn.never rfl (pi_range1 (by rfl) B_range (pa_cons (pe_callB call_lenZ (by rfl) B_len (by decide +kernel) (pa_cons (pv 1) pa_nil)) pa_nil)) (pg_name (i := 2) nd rfl (by first | exact .inl rfl | exact .inr rfl))
        (pss_one (ps_if (pt_not (pt_val (pe_call G__law_same (hr.mono (by first | decide | omega)) (by rfl) g__law_same kp__law_same b__law_same .nil pass0 (pa_cons (pe_ix ix_seq (pv 0) (pv 2) (fun _ _ => rfl)) (pa_cons (pe_ix ix_seq (pv 1) (pv 2) (fun _ _ => rfl)) pa_nil))))) (pss_one (ps_ret pe_bl)) pss_nil)))
      (pss_one (ps_ret pe_bl))))) pss_nil)
    (pss_cons (ps_if (pt_val (pe_callB call_isi (by rfl) B_isinstance (by decide +kernel) (pa_cons (pv 1) (pa_cons (pe_bltn (v := .ty "dict") (by rfl) B_dict (by decide +kernel) rfl) pa_nil)))) (pss_cons (ps_if (PW.pt (pw_or (pt_not (pt_val (pe_callB call_isi (by rfl) B_isinstance (by decide +kernel) (pa_cons (pv 0) (pa_cons (pe_bltn (v := .ty "dict") (by rfl) B_dict (by decide +kernel) rfl) pa_nil))))) (pw_or1 (pt_cmpR (op_neZ hr.units) (pe_callB call_lenZ (by rfl) B_len (by decide +kernel) (pa_cons (pv 0) pa_nil)) (pe_callB call_lenZ (by rfl) B_len (by decide +kernel) (pa_cons (pv 1) pa_nil)) (nomark _))))) (pss_one (ps_ret pe_bl)) pss_nil)
      (pss_one (ps_ret (pe_cmpR (op_eqZ hr.units) (pe_lc (own := [("key", 3)]) rfl nd (pi_sq (pv 1)) (blkOk_by (own := [("key", 3)]) (N := ["actual", "due", "k", "key"]) (sc := defScope s__law_same) (by decide +kernel)) (fun _ _ _ _ _ => (pg_name (i := 3) nd rfl (by first | exact .inl rfl | exact .inr rfl))) (fun _ _ _ _ _ => (pts_one (PW.pt (pw_or (pt_cmpR (opK (r := rNotInY) (K := K) (op_notInY (inU hr)) (by rfl)) (pv 3) (pv 0) (by rfl)) (pw_or1 (pt_not (pt_val (pe_call G__law_same (hr.mono (by first | decide | omega)) (by rfl) g__law_same kp__law_same b__law_same .nil pass0 (pa_cons (pe_ix (ixK (r := rIx) (K := K) ix_seq (by rfl)) (pv 0) (pv 3) (fun _ _ => rfl)) (pa_cons (pe_ix (ixK (r := rIx) (K := K) ix_seq (by rfl)) (pv 1) (pv 3) (fun _ _ => rfl)) pa_nil)))))))))) (fun _ _ _ _ _ => (pv 3))) (pe_lst pa_nil) (nomark _))))) pss_nil)
    (pss_cons (ps_if (pt_cmpR (op_neZ hr.units) (pe_callB call_isi (by rfl) B_isinstance (by decide +kernel) (pa_cons (pv 1) (pa_cons (pe_bltn (v := .ty "bool") (by rfl) B_bool (by decide +kernel) rfl) pa_nil))) (pe_callB call_isi (by rfl) B_isinstance (by decide +kernel) (pa_cons (pv 0) (pa_cons (pe_bltn (v := .ty "bool") (by rfl) B_bool (by decide +kernel) rfl) pa_nil))) (nomark _)) (pss_one (ps_ret pe_bl)) pss_nil)
    (pss_cons (ps_if (PW.pt (pw_or (pt_cmpR (op_neZ hr.units) (pe_callB call_isi (by rfl) B_isinstance (by decide +kernel) (pa_cons (pv 1) (pa_cons (pe_bltn (v := .ty "int") (by rfl) B_int (by decide +kernel) rfl) pa_nil))) (pe_callB call_isi (by rfl) B_isinstance (by decide +kernel) (pa_cons (pv 0) (pa_cons (pe_bltn (v := .ty "int") (by rfl) B_int (by decide +kernel) rfl) pa_nil))) (nomark _)) (pw_or1 (pt_cmpR (op_neZ hr.units) (pe_callB call_isi (by rfl) B_isinstance (by decide +kernel) (pa_cons (pv 1) (pa_cons (pe_bltn (v := .ty "str") (by rfl) B_str (by decide +kernel) rfl) pa_nil))) (pe_callB call_isi (by rfl) B_isinstance (by decide +kernel) (pa_cons (pv 0) (pa_cons (pe_bltn (v := .ty "str") (by rfl) B_str (by decide +kernel) rfl) pa_nil))) (nomark _))))) (pss_one (ps_ret pe_bl)) pss_nil)
    (pss_one (ps_ret (pe_cmpR (op_eqZ hr.units) (pv 0) (pv 1) (nomark _))))))))), fun rs L q x h => ?_⟩
      obtain ⟨d, rfl, ok, hq⟩ := h
      cases d with
      | dict ds => cases n <;> exact ok.elim
      | none =>
        repeat walk_at "z"
        exact rt_dat hq
      | bool b =>
        repeat walk_at "z"
        rw [beq_self_eq_true]
        exact rt_dat hq
      | int b =>
        repeat walk_at "z"
        rw [beq_self_eq_true]
        exact rt_dat hq
      | str b =>
        repeat walk_at "z"
        rw [beq_self_eq_true]
        exact rt_dat hq
      | list ds =>
        repeat walk_at "z"
        rw [show (!((ds.length : Int) == (ds.length : Int))) = false from by rw [beq_self_eq_true]; rfl]
        repeat walk_at "z"
        have ok : ∃ m, n = m + 1 ∧ ds.length ≤ 1000000 ∧ ∀ d ∈ ds, okD m d := by
          cases n with
          | zero => exact ok.elim
          | succ m => exact ⟨m, rfl, ok⟩
        obtain ⟨m, rfl, hl, ok⟩ := ok
        refine hs_for ?_
        refine ci_range1 ?_
        repeat walk_at "z"
        refine ⟨by omega, fun i ε' L' => ∃ kk, ε' = [some (.dat (.list ds)), some (.dat (.list ds)), kk, none] ∧ L' = L, ⟨_, rfl, rfl⟩, ?_, ?_⟩
        · rintro i d ε' L' hd ⟨kk, rfl, rfl⟩
          obtain ⟨rfl, hi⟩ := rng_get hd
          have hi : i < ds.length := by omega
          have ec : ds[i]? = some ds[i] := List.getElem?_eq_getElem hi
          generalize ds[i] = e at ec
          rw [Int.zero_add]
          refine cg_name ?_
          repeat walk_at "z"
          refine od_ix_lst (atI_nat ec) ?_
          repeat walk_at "z"
          refine od_ix_lst (atI_nat ec) ?_
          repeat walk_at "z"
          refine ⟨ok e (List.mem_of_getElem? ec), ?_⟩
          repeat walk_at "z"
          first | exact rfl | exact ⟨_, rfl, rfl⟩
        · rintro ε' L' ⟨kk, rfl, rfl⟩
          repeat walk_at "z"
          exact rt_dat hq
      | tuple ds =>
        repeat walk_at "z"
        rw [show (!((ds.length : Int) == (ds.length : Int))) = false from by rw [beq_self_eq_true]; rfl]
        repeat walk_at "z"
        have ok : ∃ m, n = m + 1 ∧ ds.length ≤ 1000000 ∧ ∀ d ∈ ds, okD m d := by
          cases n with
          | zero => exact ok.elim
          | succ m => exact ⟨m, rfl, ok⟩
        obtain ⟨m, rfl, hl, ok⟩ := ok
        refine hs_for ?_
        refine ci_range1 ?_
        repeat walk_at "z"
        refine ⟨by omega, fun i ε' L' => ∃ kk, ε' = [some (.dat (.tuple ds)), some (.dat (.tuple ds)), kk, none] ∧ L' = L, ⟨_, rfl, rfl⟩, ?_, ?_⟩
        · rintro i d ε' L' hd ⟨kk, rfl, rfl⟩
          obtain ⟨rfl, hi⟩ := rng_get hd
          have hi : i < ds.length := by omega
          have ec : ds[i]? = some ds[i] := List.getElem?_eq_getElem hi
          generalize ds[i] = e at ec
          rw [Int.zero_add]
          refine cg_name ?_
          repeat walk_at "z"
          refine od_ix_tup (atI_nat ec) ?_
          repeat walk_at "z"
          refine od_ix_tup (atI_nat ec) ?_
          repeat walk_at "z"
          refine ⟨ok e (List.mem_of_getElem? ec), ?_⟩
          repeat walk_at "z"
          first | exact rfl | exact ⟨_, rfl, rfl⟩
        · rintro ε' L' ⟨kk, rfl, rfl⟩
          repeat walk_at "z"
          exact rt_dat hq
theorem okS__law_same {f : Addr} {fd : FuncData} (D : DefAt K mg "_law_same" s__law_same ps__law_same f fd) (B_len : mg "len" = none) (B_range : mg "range" = none) (B_isinstance : mg "isinstance" = none) (B_tuple : mg "tuple" = none) (B_list : mg "list" = none) (B_dict : mg "dict" = none) (B_bool : mg "bool" = none) (B_int : mg "int" = none) (B_str : mg "str" = none) :
    Has P w K mg base 9 "_law_same" ps__law_same d_same := has_imp (ok__law_same D B_len B_range B_isinstance B_tuple B_list B_dict B_bool B_int B_str 9) fun _ _ _ _ h => same_dSame h
abbrev s__law_flags : Stmt := top 25
theorem sc__law_flags : FnScope ["e"] ["e"] (defScope s__law_flags) := ⟨rfl, rfl, rfl, by decide +kernel, rfl, by decide +kernel, by decide +kernel⟩
abbrev ps__law_flags : List Str := ["e"]
def cls5 (mg : Str → Option Value) (c1 c2 c3 c4 c5 : Addr) : Prop := mg "NotRight" = some (.ref c1) ∧ mg "NotThere" = some (.ref c2) ∧ mg "NoAnswer" = some (.ref c3) ∧ mg "TooLarge" = some (.ref c4) ∧ mg "Malformed" = some (.ref c5)
theorem ok__law_flags {f : Addr} {fd : FuncData} (D : DefAt K mg "_law_flags" s__law_flags ps__law_flags f fd) {C_NotRight C_NotThere C_NoAnswer C_TooLarge C_Malformed : Addr} (B_isinstance : mg "isinstance" = none) (G : cls5 mg C_NotRight C_NotThere C_NoAnswer C_TooLarge C_Malformed) : HasQ P w K mg base 1 "_law_flags" ps__law_flags (spFlags K [C_NotRight, C_NotThere, C_NoAnswer, C_TooLarge, C_Malformed]) := by
  obtain ⟨g_NotRight, g_NotThere, g_NoAnswer, g_TooLarge, g_Malformed⟩ := G
  refine ⟨f, fd, D.g, D.F.kp, D.b, fn_q D.F sc__law_flags (fun a D vs H Q E h => ?_) fun cdv A outer s H vs Q p D hr hz hf h => ?_⟩
  · obtain ⟨rfl, _⟩ := h
    rfl
  · obtain ⟨rfl, XC, bs, hp, hq⟩ := h
    have nd := sc__law_flags.nd
    refine ⟨_, (pss_one (ps_ret (pe_lst (pa_cons (pe_callB (call_isQ XC List.mem_cons_self hz hf) (by rfl) B_isinstance (by decide +kernel) (pa_cons (pv 0) (pa_cons (pe_glob (v := .ref C_NotRight) (by rfl) g_NotRight rfl) pa_nil))) (pa_cons (pe_callB (call_isQ XC List.mem_cons_self hz hf) (by rfl) B_isinstance (by decide +kernel) (pa_cons (pv 0) (pa_cons (pe_glob (v := .ref C_NotThere) (by rfl) g_NotThere rfl) pa_nil))) (pa_cons (pe_callB (call_isQ XC List.mem_cons_self hz hf) (by rfl) B_isinstance (by decide +kernel) (pa_cons (pv 0) (pa_cons (pe_glob (v := .ref C_NoAnswer) (by rfl) g_NoAnswer rfl) pa_nil))) (pa_cons (pe_callB (call_isQ XC List.mem_cons_self hz hf) (by rfl) B_isinstance (by decide +kernel) (pa_cons (pv 0) (pa_cons (pe_glob (v := .ref C_TooLarge) (by rfl) g_TooLarge rfl) pa_nil))) (pa_cons (pe_callB (call_isQ XC List.mem_cons_self hz hf) (by rfl) B_isinstance (by decide +kernel) (pa_cons (pv 0) (pa_cons (pe_glob (v := .ref C_Malformed) (by rfl) g_Malformed rfl) pa_nil))) pa_nil)))))))), ?_⟩
    cases hp with
    | cons h1 hp =>
      cases hp with
      | cons h2 hp =>
        cases hp with
        | cons h3 hp =>
          cases hp with
          | cons h4 hp =>
            cases hp with
            | cons h5 hp =>
              cases hp
              have v0 : ([some (V.ref p.1)] : L2.St)[0]? = some (some (V.ref p.1)) := rfl
              have one : ∀ (c : Addr) (b : Bool) (H : Hp) (Q : VK), PySem.W.kitOne K (.ref D) (.ref c) = some b → Q (.bl b) H → tCB (rIsE K D p.1) (tCons (tVar 0) (tCons (tC (.ref c)) tNil)) [some (V.ref p.1)] H Q := fun c b H Q hb q => ⟨_, v0, .ref c, .ref c, b, rfl, fun u r => r, hb, q⟩
              refine one _ _ _ _ h1 ?_
              refine one _ _ _ _ h2 ?_
              refine one _ _ _ _ h3 ?_
              refine one _ _ _ _ h4 ?_
              refine one _ _ _ _ h5 ?_
              exact ⟨szl _ (by show 5 ≤ 16777216; decide), hq⟩

end
end W03

set_option Elab.async false
set_option linter.all false
set_option maxRecDepth 100000
set_option maxHeartbeats 4000000
namespace W03
open PySem PySem.Spec PyProof.Rows L2 Z Y
def dLaw : DSp := fun rs L k _ => ∃ ns : List Int, rs = [.scr ns] ∧ ns.length ≤ 63 ∧ L = [] ∧ k (.dat (.bool true)) L
section
variable {P : Program} {w : World} {K : PySem.W.Frag} {mg : Str → Option Value} {base : Heap}
abbrev s_has_signs : Stmt := top 10
theorem sc_has_signs : FnScope ["value", "length", "signs", "sign"] ["value", "length", "signs"] (defScope s_has_signs) := ⟨rfl, rfl, rfl, by decide +kernel, rfl, by decide +kernel, by decide +kernel⟩
abbrev ps_has_signs : List Str := ["value", "length", "signs"]
theorem ok_has_signs {f : Addr} {fd : FuncData} (D : DefAt K mg "has_signs" s_has_signs ps_has_signs f fd) (ca : Nat → Addr) (B_isinstance : mg "isinstance" = none) (B_str : mg "str" = none) (B_all : mg "all" = none) (B_len : mg "len" = none) : Has P w K mg base 1 "has_signs" ps_has_signs (d_has_signs ca) := by
  refine ⟨f, fd, D.g, D.F.kp, D.b, fn_z D.F sc_has_signs (fun rs L k x h => ?_) fun cdv A outer s H E hr => ?_⟩
  · obtain ⟨_, _, _, rfl, _⟩ := h
    rfl
  · have nd := sc_has_signs.nd
    refine ⟨_, (pss_one (ps_ret (pe_and (pe_callB call_isi (by rfl) B_isinstance (by decide +kernel) (pa_cons (pv 0) (pa_cons (pe_bltn (v := .ty "str") (by rfl) B_str (by decide +kernel) rfl) pa_nil))) (pe_and (pe_cmpR (op_eqZ hr.units) (pe_callB call_lenZ (by rfl) B_len (by decide +kernel) (pa_cons (pv 0) pa_nil)) (pv 1) (nomark _)) (pe_one (pe_callB (cr_all rfl) (by rfl) B_all (by decide +kernel) (pa_cons (pe_lc (own := [("sign", 3)]) rfl nd (pi_sq (pv 0)) (blkOk_by (own := [("sign", 3)]) (N := ["value", "length", "signs", "sign"]) (sc := defScope s_has_signs) (by decide +kernel)) (fun _ _ _ _ _ => (pg_name (i := 3) nd rfl (by first | exact .inl rfl | exact .inr rfl))) (fun _ _ _ _ _ => pts_nil) (fun _ _ _ _ _ => (pe_cmpR (opK (r := rInY) (K := K) (op_inY (inU hr)) (by rfl)) (pv 3) (pv 2) (by rfl)))) pa_nil))))))), fun rs L q x h => ?_⟩
    obtain ⟨v_value, v_length, v_signs, rfl, hq⟩ := h
    refine fin0 (ca := ca) (enc := eB) (Lf := fun _ => L) (X := fun _ L' => L' = L) (x := fun _ _ => False) (fun _ => Keeps.refl _) hq ?_
    refine (hv_grd fun g8 => ?_)
    exact (hv_ret (v := ((isD v_value "str") && ((((lenD v_value) == v_length)) && ((itemsD v_value).all (fun x1 : PyData => (inB (tyS.f x1) (sgns v_signs))))))) (ev_and (ev_cb (ea_cons (ev_var rfl) (ea_cons ev_ty ea_nil)) fun _ q => cd_isi (by decide) q) fun h7 => (ev_and (ev_op (ev_cb (ea_cons (ev_var rfl) ea_nil) fun _ q => cd_lenD (g8 h7).1 q) (ev_var rfl) fun _ q => od_eq_int q) fun h6 => (ev_cb (ea_cons (ev_lcA (e := eB) (ei_sq (ds := (itemsD v_value).map eD) (ev_var rfl) (by rw [← map_idD]; exact (seqD ((g8 h7).2 h6).1))) ((g8 h7).2 h6).2.2 (fun x1 m2 a4 p3 n5 => ⟨_, eg_name, (ev_op (ev_cast (ev_var rfl) (tyS.ok _ (((g8 h7).2 h6).2.1 x1 m2).1)) (ev_var rfl) fun _ q => od_or1 (od_inSgn (((g8 h7).2 h6).2.1 x1 m2).2 q))⟩) gown_name) ea_nil) fun _ q => cd_allE q))) (rf_dat (enc := eB) (Lf := fun _ => L) (r := ((isD v_value "str") && ((((lenD v_value) == v_length)) && ((itemsD v_value).all (fun x1 : PyData => (inB (tyS.f x1) (sgns v_signs))))))) rfl (wk_of_sub (List.Sublist.refl _))))
abbrev s_is_number : Stmt := top 11
theorem sc_is_number : FnScope ["value"] ["value"] (defScope s_is_number) := ⟨rfl, rfl, rfl, by decide +kernel, rfl, by decide +kernel, by decide +kernel⟩
abbrev ps_is_number : List Str := ["value"]
theorem ok_is_number {f : Addr} {fd : FuncData} (D : DefAt K mg "is_number" s_is_number ps_is_number f fd) (ca : Nat → Addr) {t_LONG : Tok} (c_LONG : mg "LONG" = some (.int 12 t_LONG)) {t_FIGURES : Tok} (c_FIGURES : mg "FIGURES" = some (.str "0123456789" t_FIGURES)) (H_has_signs : Has P w K mg base 1 "has_signs" ps_has_signs (d_has_signs ca)) : Has P w K mg base 2 "is_number" ps_is_number (d_is_number ca) := by
  obtain ⟨f_has_signs, _, g_has_signs, kp_has_signs, b_has_signs, G_has_signs⟩ := id H_has_signs
  refine ⟨f, fd, D.g, D.F.kp, D.b, fn_z D.F sc_is_number (fun rs L k x h => ?_) fun cdv A outer s H E hr => ?_⟩
  · obtain ⟨_, rfl, _⟩ := h
    rfl
  · have nd := sc_is_number.nd
    refine ⟨_, (pss_one (ps_ret (pe_call G_has_signs (hr.mono (by first | decide | omega)) (by rfl) g_has_signs kp_has_signs b_has_signs .nil pass0 (pa_cons (pv 0) (pa_cons (pe_glob (v := .int 12) (by rfl) c_LONG ⟨_, rfl⟩) (pa_cons (pe_glob (v := .str "0123456789") (by rfl) c_FIGURES ⟨_, rfl⟩) pa_nil)))))), fun rs L q x h => ?_⟩
    obtain ⟨v_value, rfl, hq⟩ := h
    refine fin0 (ca := ca) (enc := eB) (Lf := fun _ => L) (X := fun _ L' => L' = L) (x := fun _ _ => False) (fun _ => Keeps.refl _) hq ?_
    refine (hv_grd fun g1 => ?_)
    exact (hv_ret (v := (m_has_signs v_value (12 : Int) ("0123456789" : Str)).get) (ev_call (ea_cons (ev_var rfl) (ea_cons ev_int (ea_cons ev_str ea_nil))) fun _ q => ⟨v_value, (12 : Int), ("0123456789" : Str), rfl, accR_ok g1 q⟩) (rf_dat (enc := eB) (Lf := fun _ => L) (r := (m_has_signs v_value (12 : Int) ("0123456789" : Str)).get) rfl (wk_of_sub (List.Sublist.refl _))))
abbrev s_weight_of : Stmt := top 12
theorem sc_weight_of : FnScope ["at", "figure"] ["at", "figure"] (defScope s_weight_of) := ⟨rfl, rfl, rfl, by decide +kernel, rfl, by decide +kernel, by decide +kernel⟩
abbrev ps_weight_of : List Str := ["at", "figure"]
theorem ok_weight_of {f : Addr} {fd : FuncData} (D : DefAt K mg "weight_of" s_weight_of ps_weight_of f fd) (ca : Nat → Addr) : Has P w K mg base 1 "weight_of" ps_weight_of (d_weight_of ca) := by
  refine ⟨f, fd, D.g, D.F.kp, D.b, fn_z D.F sc_weight_of (fun rs L k x h => ?_) fun cdv A outer s H E hr => ?_⟩
  · obtain ⟨_, _, rfl, _⟩ := h
    rfl
  · have nd := sc_weight_of.nd
    refine ⟨_, (pss_cons (ps_if (pt_cmpR (op_eqZ hr.units) (pe_op op_mod (pv 0) pe_int) pe_int (nomark _)) (pss_one (ps_ret (pv 1))) pss_nil)
    (pss_one (ps_ret (pe_ifExp (pt_cmpR op_ltZ (pv 1) pe_int (nomark _)) (pe_op op_mulY pe_int (pv 1)) (pe_op op_sub (pe_op op_mulY pe_int (pv 1)) pe_int))))), fun rs L q x h => ?_⟩
    obtain ⟨v_at, v_figure, rfl, hq⟩ := h
    refine fin0 (ca := ca) (enc := eI) (Lf := fun _ => L) (X := fun _ L' => L' = L) (x := fun _ _ => False) (fun _ => Keeps.refl _) hq ?_
    refine (hv_if1 (et_test (ev_op (ev_op (ev_var rfl) ev_int fun _ q => od_mod (by decide) q) ev_int fun _ q => od_eq_int q)) (fun h1 => ?_) fun h1 => ?_)
    · exact (hv_ret (v := v_figure) (ev_var rfl) (rf_dat (enc := eI) (Lf := fun _ => L) (r := v_figure) rfl (wk_of_sub (List.Sublist.refl _))))
    · exact (hv_ret (v := (bif (decide (v_figure < (5 : Int))) then ((2 : Int) * v_figure) else (((2 : Int) * v_figure) - (9 : Int)))) (ev_if (e := eI) (et_test (ev_op (ev_var rfl) ev_int fun _ q => od_lt_int q)) (fun h3 => (ev_op ev_int (ev_var rfl) fun _ q => od_mulY_int (.inl ⟨by decide, by decide⟩) q)) fun h3 => (ev_op (ev_op ev_int (ev_var rfl) fun _ q => od_mulY_int (.inl ⟨by decide, by decide⟩) q) ev_int fun _ q => od_sub q)) (rf_dat (enc := eI) (Lf := fun _ => L) (r := (bif (decide (v_figure < (5 : Int))) then ((2 : Int) * v_figure) else (((2 : Int) * v_figure) - (9 : Int)))) rfl (wk_of_sub (List.Sublist.refl _))))
abbrev s_sum_by : Stmt := top 13
theorem sc_sum_by : FnScope ["number", "at", "figure"] ["number"] (defScope s_sum_by) := ⟨rfl, rfl, rfl, by decide +kernel, rfl, by decide +kernel, by decide +kernel⟩
abbrev ps_sum_by : List Str := ["number"]
theorem ok_sum_by {f : Addr} {fd : FuncData} (D : DefAt K mg "sum_by" s_sum_by ps_sum_by f fd) (ca : Nat → Addr) (B_sum : mg "sum" = none) (B_int : mg "int" = none) (B_enumerate : mg "enumerate" = none) (H_weight_of : Has P w K mg base 1 "weight_of" ps_weight_of (d_weight_of ca)) : Has P w K mg base 2 "sum_by" ps_sum_by (d_sum_by ca) := by
  obtain ⟨f_weight_of, _, g_weight_of, kp_weight_of, b_weight_of, G_weight_of⟩ := id H_weight_of
  refine ⟨f, fd, D.g, D.F.kp, D.b, fn_z D.F sc_sum_by (fun rs L k x h => ?_) fun cdv A outer s H E hr => ?_⟩
  · obtain ⟨_, rfl, _⟩ := h
    rfl
  · have nd := sc_sum_by.nd
    refine ⟨_, (pss_one (ps_ret (pe_callB (call_sumZ rfl) (by rfl) B_sum (by decide +kernel) (pa_cons (pe_lc (own := [("at", 1), ("figure", 2)]) rfl nd (pi_en (by rfl) B_enumerate (pa_cons (pv 0) pa_nil)) (blkOk_by (own := [("at", 1), ("figure", 2)]) (N := ["number", "at", "figure"]) (sc := defScope s_sum_by) (by decide +kernel)) (fun _ _ _ _ _ => (pg_tupK (K := K) (n := 2) (by rfl) rfl (pgs_cons (pg_name (i := 1) nd rfl (by first | exact .inl rfl | exact .inr rfl)) (pgs_cons (pg_name (i := 2) nd rfl (by first | exact .inl rfl | exact .inr rfl)) pgs_nil)))) (fun _ _ _ _ _ => pts_nil) (fun _ _ _ _ _ => (pe_call G_weight_of (hr.mono (by first | decide | omega)) (by rfl) g_weight_of kp_weight_of b_weight_of .nil pass0 (pa_cons (pv 1) (pa_cons (pe_callTy call_intZ (by rfl) B_int (by decide +kernel) (pa_cons (pv 2) pa_nil)) pa_nil))))) pa_nil)))), fun rs L q x h => ?_⟩
    obtain ⟨v_number, rfl, hq⟩ := h
    refine fin0 (ca := ca) (enc := eI) (Lf := fun _ => L) (X := fun _ L' => L' = L) (x := fun _ _ => False) (fun _ => Keeps.refl _) hq ?_
    refine (hv_grd fun g6 => ?_)
    exact (hv_ret (v := ((enumI (sgns v_number)).map fun x1 : (Int × Str) => (m_weight_of x1.1 (intS x1.2)).get).sum) (ev_cb (ea_cons (ev_lcA (e := eI) (ei_en (e := eS) (ev_var rfl) seqS rfl) g6.2 (fun x1 m2 a4 p3 n5 => ⟨_, eg_tup2, (ev_call (ea_cons (ev_var rfl) (ea_cons (ev_cb (ea_cons (ev_var rfl) ea_nil) fun _ q => cd_intS (g6.1 x1 m2).1 q) ea_nil)) fun _ q => ⟨x1.1, (intS x1.2), rfl, accR_ok (g6.1 x1 m2).2 q⟩)⟩) gown_tup2) ea_nil) fun _ q => cd_sumZ_lst q) (rf_dat (enc := eI) (Lf := fun _ => L) (r := ((enumI (sgns v_number)).map fun x1 : (Int × Str) => (m_weight_of x1.1 (intS x1.2)).get).sum) rfl (wk_of_sub (List.Sublist.refl _))))
abbrev s_is_sound : Stmt := top 14
theorem sc_is_sound : FnScope ["value"] ["value"] (defScope s_is_sound) := ⟨rfl, rfl, rfl, by decide +kernel, rfl, by decide +kernel, by decide +kernel⟩
abbrev ps_is_sound : List Str := ["value"]
theorem ok_is_sound {f : Addr} {fd : FuncData} (D : DefAt K mg "is_sound" s_is_sound ps_is_sound f fd) (ca : Nat → Addr) (H_is_number : Has P w K mg base 2 "is_number" ps_is_number (d_is_number ca)) (H_sum_by : Has P w K mg base 2 "sum_by" ps_sum_by (d_sum_by ca)) : Has P w K mg base 3 "is_sound" ps_is_sound (d_is_sound ca) := by
  obtain ⟨f_is_number, _, g_is_number, kp_is_number, b_is_number, G_is_number⟩ := id H_is_number
  obtain ⟨f_sum_by, _, g_sum_by, kp_sum_by, b_sum_by, G_sum_by⟩ := id H_sum_by
  refine ⟨f, fd, D.g, D.F.kp, D.b, fn_z D.F sc_is_sound (fun rs L k x h => ?_) fun cdv A outer s H E hr => ?_⟩
  · obtain ⟨_, rfl, _⟩ := h
    rfl
  · have nd := sc_is_sound.nd
    refine ⟨_, (pss_one (ps_ret (pe_and (pe_call G_is_number (hr.mono (by first | decide | omega)) (by rfl) g_is_number kp_is_number b_is_number .nil pass0 (pa_cons (pv 0) pa_nil)) (pe_one (pe_cmpR (op_eqZ hr.units) (pe_op op_mod (pe_call G_sum_by (hr.mono (by first | decide | omega)) (by rfl) g_sum_by kp_sum_by b_sum_by .nil pass0 (pa_cons (pv 0) pa_nil)) pe_int) pe_int (nomark _)))))), fun rs L q x h => ?_⟩
    obtain ⟨v_value, rfl, hq⟩ := h
    refine fin0 (ca := ca) (enc := eB) (Lf := fun _ => L) (X := fun _ L' => L' = L) (x := fun _ _ => False) (fun _ => Keeps.refl _) hq ?_
    refine (hv_grd fun g2 => ?_)
    exact (hv_ret (v := ((m_is_number v_value).get && ((((m_sum_by (tyS.f v_value)).get % (10 : Int)) == (0 : Int))))) (ev_and (ev_call (ea_cons (ev_var rfl) ea_nil) fun _ q => ⟨v_value, rfl, accR_ok g2.1 q⟩) fun h1 => (ev_op (ev_op (ev_call (ea_cons (ev_cast (ev_var rfl) (tyS.ok _ (g2.2 h1).1)) ea_nil) fun _ q => ⟨(tyS.f v_value), rfl, accR_ok (g2.2 h1).2 q⟩) ev_int fun _ q => od_mod (by decide) q) ev_int fun _ q => od_eq_int q)) (rf_dat (enc := eB) (Lf := fun _ => L) (r := ((m_is_number v_value).get && ((((m_sum_by (tyS.f v_value)).get % (10 : Int)) == (0 : Int))))) rfl (wk_of_sub (List.Sublist.refl _))))
abbrev s_check_is : Stmt := top 15
theorem sc_check_is : FnScope ["is_fine"] ["is_fine"] (defScope s_check_is) := ⟨rfl, rfl, rfl, by decide +kernel, rfl, by decide +kernel, by decide +kernel⟩
abbrev ps_check_is : List Str := ["is_fine"]
theorem ok_check_is {f : Addr} {fd : FuncData} (D : DefAt K mg "check_is" s_check_is ps_check_is f fd) (ca : Nat → Addr) (E_NotRight : ErrAt K mg "NotRight" (ca 0)) : HasX P w K mg base 1 "check_is" ps_check_is (d_check_is ca) := by
  refine ⟨f, fd, D.g, D.F.kp, D.b, fn_zX D.F sc_check_is (fun rs L k x h => ?_) fun cdv A outer s H E hr => ?_⟩
  · obtain ⟨_, rfl, _⟩ := h
    rfl
  · have nd := sc_check_is.nd
    have tk : Takes (cxOf (L2.CX P w) P w K mg base ["is_fine"] "check_is" (defScope s_check_is) f cdv A outer s H E) (fun cls d _ H => E cls d H) := takes_of rfl rfl rfl rfl
    refine ⟨_, (pss_one (ps_if (pt_not (pt_val (pv 0))) (pss_one (ps_raise rfl tk (pmk_own PySem.F.excBase_ValueError E_NotRight.x E_NotRight.g E_NotRight.k (raises_own E_NotRight.s1 E_NotRight.s2) (by rfl)))) pss_nil)), fun rs L q x h => ?_⟩
    obtain ⟨v_is_fine, rfl, hq⟩ := h
    refine finXN (ca := ca) hq ?_
    refine (hv_ifL (et_not (et_b (ev_var rfl))) (fun h1 => ?_) fun h1 => ?_)
    · exact (hv_raise rfl rfl)
    · exact (hv_nx (wk_of_sub (List.Sublist.refl _)))
abbrev s_check_figure : Stmt := top 16
theorem sc_check_figure : FnScope ["figures"] ["figures"] (defScope s_check_figure) := ⟨rfl, rfl, rfl, by decide +kernel, rfl, by decide +kernel, by decide +kernel⟩
abbrev ps_check_figure : List Str := ["figures"]
theorem ok_check_figure {f : Addr} {fd : FuncData} (D : DefAt K mg "check_figure" s_check_figure ps_check_figure f fd) (ca : Nat → Addr) (B_str : mg "str" = none) {t_FIGURES : Tok} (c_FIGURES : mg "FIGURES" = some (.str "0123456789" t_FIGURES)) {t_LONG : Tok} (c_LONG : mg "LONG" = some (.int 12 t_LONG)) (H_check_is : HasX P w K mg base 1 "check_is" ps_check_is (d_check_is ca)) (H_has_signs : Has P w K mg base 1 "has_signs" ps_has_signs (d_has_signs ca)) (H_sum_by : Has P w K mg base 2 "sum_by" ps_sum_by (d_sum_by ca)) : HasX P w K mg base 3 "check_figure" ps_check_figure (d_check_figure ca) := by
  obtain ⟨f_check_is, _, g_check_is, kp_check_is, b_check_is, G_check_is⟩ := id H_check_is
  obtain ⟨_, _, g0_check_is, kp0_check_is, b0_check_is, G0_check_is⟩ := has0 H_check_is
  obtain ⟨f_has_signs, _, g_has_signs, kp_has_signs, b_has_signs, G_has_signs⟩ := id H_has_signs
  obtain ⟨f_sum_by, _, g_sum_by, kp_sum_by, b_sum_by, G_sum_by⟩ := id H_sum_by
  refine ⟨f, fd, D.g, D.F.kp, D.b, fn_zX D.F sc_check_figure (fun rs L k x h => ?_) fun cdv A outer s H E hr => ?_⟩
  · obtain ⟨_, rfl, _⟩ := h
    rfl
  · have nd := sc_check_figure.nd
    have tk : Takes (cxOf (L2.CX P w) P w K mg base ["figures"] "check_figure" (defScope s_check_figure) f cdv A outer s H E) (fun cls d _ H => E cls d H) := takes_of rfl rfl rfl rfl
    refine ⟨_, (pss_cons (ps_expr (pe_callS G_check_is (hr.mono (by first | decide | omega)) (by rfl) g_check_is kp_check_is b_check_is (fun σ => passAt tk σ) (pa_cons (pe_call G_has_signs (hr.mono (by first | decide | omega)) (by rfl) g_has_signs kp_has_signs b_has_signs .nil pass0 (pa_cons (pv 0) (pa_cons (pe_op op_sub (pe_glob (v := .int 12) (by rfl) c_LONG ⟨_, rfl⟩) pe_int) (pa_cons (pe_glob (v := .str "0123456789") (by rfl) c_FIGURES ⟨_, rfl⟩) pa_nil)))) pa_nil)))
    (pss_one (ps_ret (pe_callTy call_strY (by rfl) B_str (by decide +kernel) (pa_cons (pe_op op_mod (pe_un un_neg (pe_call G_sum_by (hr.mono (by first | decide | omega)) (by rfl) g_sum_by kp_sum_by b_sum_by .nil pass0 (pa_cons (pv 0) pa_nil))) pe_int) pa_nil))))), fun rs L q x h => ?_⟩
    obtain ⟨v_figures, rfl, hq⟩ := h
    refine finX (ca := ca) (enc := eS) (Lf := fun _ => L) (fun _ => Keeps.refl _) hq ?_
    refine (hv_grd fun g3 => ?_)
    refine (hv_callD (enc := eN) (ea_cons (ev_call (ea_cons (ev_var rfl) (ea_cons (ev_op ev_int ev_int fun _ q => od_sub q) (ea_cons ev_str ea_nil))) fun _ q => ⟨v_figures, ((12 : Int) - (1 : Int)), ("0123456789" : Str), rfl, accR_ok g3 q⟩) ea_nil) (fun _ _ q => ⟨(m_has_signs v_figures ((12 : Int) - (1 : Int)) ("0123456789" : Str)).get, rfl, q⟩) rfl fun _ => ?_)
    refine (hv_grd fun g2 => ?_)
    refine (hv_narrow tyS (fun z => [some (.dat (eD z))]) g2 fun v_figures => ?_)
    refine (hv_grd fun g1 => ?_)
    exact (hv_ret (v := (toString ((-(m_sum_by v_figures).get) % (10 : Int)) : Str)) (ev_cb (ea_cons (ev_op (ev_un (ev_call (ea_cons (ev_var rfl) ea_nil) fun _ q => ⟨v_figures, rfl, accR_ok g1.1 q⟩) fun _ q => cd_neg q) ev_int fun _ q => od_mod (by decide) q) ea_nil) fun _ q => cd_strI g1.2 q) (rf_dat (enc := eS) (Lf := fun _ => L) (r := (toString ((-(m_sum_by v_figures).get) % (10 : Int)) : Str)) rfl (wk_of_sub (List.Sublist.refl _))))
abbrev s_sum_of : Stmt := top 17
theorem sc_sum_of : FnScope ["number"] ["number"] (defScope s_sum_of) := ⟨rfl, rfl, rfl, by decide +kernel, rfl, by decide +kernel, by decide +kernel⟩
abbrev ps_sum_of : List Str := ["number"]
theorem ok_sum_of {f : Addr} {fd : FuncData} (D : DefAt K mg "sum_of" s_sum_of ps_sum_of f fd) (ca : Nat → Addr) (H_check_is : HasX P w K mg base 1 "check_is" ps_check_is (d_check_is ca)) (H_sum_by : Has P w K mg base 2 "sum_by" ps_sum_by (d_sum_by ca)) (H_is_number : Has P w K mg base 2 "is_number" ps_is_number (d_is_number ca)) : HasX P w K mg base 3 "sum_of" ps_sum_of (d_sum_of ca) := by
  obtain ⟨f_check_is, _, g_check_is, kp_check_is, b_check_is, G_check_is⟩ := id H_check_is
  obtain ⟨_, _, g0_check_is, kp0_check_is, b0_check_is, G0_check_is⟩ := has0 H_check_is
  obtain ⟨f_sum_by, _, g_sum_by, kp_sum_by, b_sum_by, G_sum_by⟩ := id H_sum_by
  obtain ⟨f_is_number, _, g_is_number, kp_is_number, b_is_number, G_is_number⟩ := id H_is_number
  refine ⟨f, fd, D.g, D.F.kp, D.b, fn_zX D.F sc_sum_of (fun rs L k x h => ?_) fun cdv A outer s H E hr => ?_⟩
  · obtain ⟨_, rfl, _⟩ := h
    rfl
  · have nd := sc_sum_of.nd
    have tk : Takes (cxOf (L2.CX P w) P w K mg base ["number"] "sum_of" (defScope s_sum_of) f cdv A outer s H E) (fun cls d _ H => E cls d H) := takes_of rfl rfl rfl rfl
    refine ⟨_, (pss_cons (ps_expr (pe_callS G_check_is (hr.mono (by first | decide | omega)) (by rfl) g_check_is kp_check_is b_check_is (fun σ => passAt tk σ) (pa_cons (pe_call G_is_number (hr.mono (by first | decide | omega)) (by rfl) g_is_number kp_is_number b_is_number .nil pass0 (pa_cons (pv 0) pa_nil)) pa_nil)))
    (pss_one (ps_ret (pe_call G_sum_by (hr.mono (by first | decide | omega)) (by rfl) g_sum_by kp_sum_by b_sum_by .nil pass0 (pa_cons (pv 0) pa_nil))))), fun rs L q x h => ?_⟩
    obtain ⟨v_number, rfl, hq⟩ := h
    refine finX (ca := ca) (enc := eI) (Lf := fun _ => L) (fun _ => Keeps.refl _) hq ?_
    refine (hv_grd fun g3 => ?_)
    refine (hv_callD (enc := eN) (ea_cons (ev_call (ea_cons (ev_var rfl) ea_nil) fun _ q => ⟨v_number, rfl, accR_ok g3 q⟩) ea_nil) (fun _ _ q => ⟨(m_is_number v_number).get, rfl, q⟩) rfl fun _ => ?_)
    refine (hv_grd fun g2 => ?_)
    refine (hv_narrow tyS (fun z => [some (.dat (eD z))]) g2 fun v_number => ?_)
    refine (hv_grd fun g1 => ?_)
    exact (hv_ret (v := (m_sum_by v_number).get) (ev_call (ea_cons (ev_var rfl) ea_nil) fun _ q => ⟨v_number, rfl, accR_ok g1 q⟩) (rf_dat (enc := eI) (Lf := fun _ => L) (r := (m_sum_by v_number).get) rfl (wk_of_sub (List.Sublist.refl _))))
abbrev s_slips_of : Stmt := top 18
theorem sc_slips_of : FnScope ["number", "found", "at", "other"] ["number"] (defScope s_slips_of) := ⟨rfl, rfl, rfl, by decide +kernel, rfl, by decide +kernel, by decide +kernel⟩
abbrev ps_slips_of : List Str := ["number"]
theorem ok_slips_of {f : Addr} {fd : FuncData} (D : DefAt K mg "slips_of" s_slips_of ps_slips_of f fd) (ca : Nat → Addr) (B_range : mg "range" = none) (B_sorted : mg "sorted" = none) {t_LONG : Tok} (c_LONG : mg "LONG" = some (.int 12 t_LONG)) (H_check_is : HasX P w K mg base 1 "check_is" ps_check_is (d_check_is ca)) (H_is_sound : Has P w K mg base 3 "is_sound" ps_is_sound (d_is_sound ca)) : HasX P w K mg base 4 "slips_of" ps_slips_of (d_slips_of ca) := by
  obtain ⟨f_check_is, _, g_check_is, kp_check_is, b_check_is, G_check_is⟩ := id H_check_is
  obtain ⟨_, _, g0_check_is, kp0_check_is, b0_check_is, G0_check_is⟩ := has0 H_check_is
  obtain ⟨f_is_sound, _, g_is_sound, kp_is_sound, b_is_sound, G_is_sound⟩ := id H_is_sound
  refine ⟨f, fd, D.g, D.F.kp, D.b, fn_zX D.F sc_slips_of (fun rs L k x h => ?_) fun cdv A outer s H E hr => ?_⟩
  · obtain ⟨_, rfl, _⟩ := h
    rfl
  · have nd := sc_slips_of.nd
    have tk : Takes (cxOf (L2.CX P w) P w K mg base ["number", "found", "at", "other"] "slips_of" (defScope s_slips_of) f cdv A outer s H E) (fun cls d _ H => E cls d H) := takes_of rfl rfl rfl rfl
    refine ⟨_, (pss_cons (ps_expr (pe_callS G_check_is (hr.mono (by first | decide | omega)) (by rfl) g_check_is kp_check_is b_check_is (fun σ => passAt tk σ) (pa_cons (pe_call G_is_sound (hr.mono (by first | decide | omega)) (by rfl) g_is_sound kp_is_sound b_is_sound .nil pass0 (pa_cons (pv 0) pa_nil)) pa_nil)))
    (pss_cons (ps_set (i := 1) nd rfl (by first | exact .inl rfl | exact .inr rfl) pe_dnewK)
    (pss_cons (ps_for (passes_of rfl) rfl (pi_range1 (by rfl) B_range (pa_cons (pe_op op_sub (pe_glob (v := .int 12) (by rfl) c_LONG ⟨_, rfl⟩) pe_int) pa_nil)) (pg_name (i := 2) nd rfl (by first | exact .inl rfl | exact .inr rfl))
      (pss_cons (ps_set (i := 3) nd rfl (by first | exact .inl rfl | exact .inr rfl) (pe_op op_addZ (pe_op op_addZ (pe_op op_addZ (pe_slice sl_Z (pv 0) po_none (po_some (pv 2))) (pe_ix ix_seq (pv 0) (pe_op op_addZ (pv 2) pe_int) (fun _ _ => rfl))) (pe_ix ix_seq (pv 0) (pv 2) (fun _ _ => rfl))) (pe_slice sl_Z (pv 0) (po_some (pe_op op_addZ (pv 2) pe_int)) po_none)))
      (pss_one (ps_if (PW.pt (pw_and (pt_cmpR (op_neZ hr.units) (pv 3) (pv 0) (nomark _)) (pw_and1 (pt_val (pe_call G_is_sound (hr.mono (by first | decide | omega)) (by rfl) g_is_sound kp_is_sound b_is_sound .nil pass0 (pa_cons (pv 3) pa_nil)))))) (pss_one (ps_asg pe_bl (pg_sub (pv 1) (pv 3) (set_M hr.units)))) pss_nil))))
    (pss_one (ps_ret (pe_callB (call_sortedY rfl) (by rfl) B_sorted (by decide +kernel) (pa_cons (pv 1) pa_nil))))))), fun rs L q x h => ?_⟩
    obtain ⟨v_number, rfl, hq⟩ := h
    refine finX (ca := ca) (enc := (eL eS)) (Lf := fun _ => L) (fun _ => Keeps.refl _) hq ?_
    refine (hv_grd fun g14 => ?_)
    refine (hv_callD (enc := eN) (ea_cons (ev_call (ea_cons (ev_var rfl) ea_nil) fun _ q => ⟨v_number, rfl, accR_ok g14 q⟩) ea_nil) (fun _ _ q => ⟨(m_is_sound v_number).get, rfl, q⟩) rfl fun _ => ?_)
    refine (hv_grd fun g13 => ?_)
    refine (hv_narrow tyS (fun z => [some (.dat (eD z)), none, none, none]) g13 fun v_number => ?_)
    refine (hv_ownM (κ := Str) (e := eB) fun p_found v_found nin_p_found => ?_)
    refine (hv_grd fun g12 => ?_)
    refine (hv_bind (fun (s : (List (Str × Bool))) ε' L' => match s with | v_found => ∃ (u2 u3 : Option Rs), ε' = [some (.dat (eS v_number)), some (.own p_found), u2, u3] ∧ (plusM L p_found (kvM eB v_found)) = L') (hv_for (fun (s : (List (Str × Bool))) ε' L' => match s with | v_found => ∃ (u2 u3 : Option Rs), ε' = [some (.dat (eS v_number)), some (.own p_found), u2, u3] ∧ (plusM L p_found (kvM eB v_found)) = L') (xs := (rngI 0 ((12 : Int) - (1 : Int)))) (g0 := eI) (f := (fun (x1 : Int) (s : (List (Str × Bool))) => match s with | v_found => (grd (v_number.length ≤ sizeLine ∧ okIx v_number.cps.toList (x1 + (1 : Int)) ∧ (cutStr v_number none (some x1)).length + (ixS v_number (x1 + (1 : Int))).length ≤ sizeLine ∧ okIx v_number.cps.toList x1 ∧ ((cutStr v_number none (some x1)) ++ (ixS v_number (x1 + (1 : Int)))).length + (ixS v_number x1).length ≤ sizeLine ∧ (((cutStr v_number none (some x1)) ++ (ixS v_number (x1 + (1 : Int)))) ++ (ixS v_number x1)).length + (cutStr v_number (some (x1 + (2 : Int))) none).length ≤ sizeLine) (lt ((((cutStr v_number none (some x1)) ++ (ixS v_number (x1 + (1 : Int)))) ++ (ixS v_number x1)) ++ (cutStr v_number (some (x1 + (2 : Int))) none)) fun v_other : Str => (grd (((!(v_other == v_number)) = true → (m_is_sound (eS v_other)).isOk = true)) (bif ((!(v_other == v_number)) && (m_is_sound (eS v_other)).get) then (grd (v_found.length < sizeLine) (lt (putA v_found v_other true) fun v_found : (List (Str × Bool)) => (.nx v_found))) else (.nx v_found))))))) (ei_range1 (ev_op ev_int ev_int fun _ q => od_sub q) g12) ⟨_, _, rfl, rfl⟩ ?_) ?_)
    · rintro x1 v_found _ _ ⟨u2, u3, rfl, rfl⟩
      refine ⟨_, eg_name, ?_⟩
      refine (hv_grd fun g9 => ?_)
      refine (hv_set (e := eS) (ev_op (ev_op (ev_op (ev_sl (ev_var rfl) eo_none (eo_some (ev_var rfl)) fun _ q => sd_strE g9.1 q) (ev_op (ev_var rfl) (ev_op (ev_var rfl) ev_int fun _ q => od_add_int q) fun _ q => od_ixS g9.1 g9.2.1 q) fun _ q => od_add_str g9.2.2.1 q) (ev_op (ev_var rfl) (ev_var rfl) fun _ q => od_ixS g9.1 g9.2.2.2.1 q) fun _ q => od_add_str g9.2.2.2.2.1 q) (ev_sl (ev_var rfl) (eo_some (ev_op (ev_var rfl) ev_int fun _ q => od_add_int q)) eo_none fun _ q => sd_strE g9.1 q) fun _ q => od_add_str g9.2.2.2.2.2 q) fun v_other => ?_)
      refine (hv_grd fun g8 => ?_)
      refine (hv_ifL (et_and (et_test (ev_op (ev_var rfl) (ev_var rfl) fun _ q => od_ne_str q)) fun h3 => (et_b (ev_call (ea_cons (ev_var rfl) ea_nil) fun _ q => ⟨(eS v_other), rfl, accR_ok (g8 h3) q⟩))) (fun h4 => ?_) fun h4 => ?_)
      · refine (hv_grd fun g6 => ?_)
        refine (hv_one ?_)
        refine (hv_setM (e := eB) (Lf := fun l' => (plusM L p_found (kvM eB l'))) ev_bl (ev_var rfl) (ev_var rfl) plusM_mem g6 (fun l' => by rw [up_plusM (nin_of nin_p_found (by simp [plus, plusM, Led.ks]))]) fun v_found => ?_)
        exact (hv_nx ⟨_, _, rfl, rfl⟩)
      · exact (hv_nx ⟨_, _, rfl, rfl⟩)
    · rintro v_found _ _ ⟨u2, u3, rfl, rfl⟩
      refine (hv_wk (M2 := L) (ε' := [some (.dat (eS v_number)), some (.dat ((eM (κ := Str) eB) v_found)), none, none]) (wk_of_sub (by exact List.sublist_append_left _ _)) (evwk_mk (.cons (.mk (.dat _)) (.cons (.mk (frzM (e := eB) plusM_mem (nin_of nin_p_found (by simp [plus, plusM, Led.ks])))) (.cons (.no _) (.cons (.no _) .nil))))) ?_)
      refine (hv_grd fun g11 => ?_)
      exact (hv_ret (v := (sortS (keysA v_found))) (ev_cb (ea_cons (ev_var rfl) ea_nil) fun _ q => cd_sortDS (e := eB) dctD g11 q) (rf_dat (enc := (eL eS)) (Lf := fun _ => L) (r := (sortS (keysA v_found))) rfl (wk_of_sub (List.Sublist.refl _))))
abbrev s_kin_of : Stmt := top 19
theorem sc_kin_of : FnScope ["number", "found", "at", "others", "figure", "other"] ["number"] (defScope s_kin_of) := ⟨rfl, rfl, rfl, by decide +kernel, rfl, by decide +kernel, by decide +kernel⟩
abbrev ps_kin_of : List Str := ["number"]
theorem ok_kin_of {f : Addr} {fd : FuncData} (D : DefAt K mg "kin_of" s_kin_of ps_kin_of f fd) (ca : Nat → Addr) (B_range : mg "range" = none) (B_sorted : mg "sorted" = none) {t_LONG : Tok} (c_LONG : mg "LONG" = some (.int 12 t_LONG)) {t_FIGURES : Tok} (c_FIGURES : mg "FIGURES" = some (.str "0123456789" t_FIGURES)) (H_check_is : HasX P w K mg base 1 "check_is" ps_check_is (d_check_is ca)) (H_is_number : Has P w K mg base 2 "is_number" ps_is_number (d_is_number ca)) (H_is_sound : Has P w K mg base 3 "is_sound" ps_is_sound (d_is_sound ca)) : HasX P w K mg base 4 "kin_of" ps_kin_of (d_kin_of ca) := by
  obtain ⟨f_check_is, _, g_check_is, kp_check_is, b_check_is, G_check_is⟩ := id H_check_is
  obtain ⟨_, _, g0_check_is, kp0_check_is, b0_check_is, G0_check_is⟩ := has0 H_check_is
  obtain ⟨f_is_number, _, g_is_number, kp_is_number, b_is_number, G_is_number⟩ := id H_is_number
  obtain ⟨f_is_sound, _, g_is_sound, kp_is_sound, b_is_sound, G_is_sound⟩ := id H_is_sound
  refine ⟨f, fd, D.g, D.F.kp, D.b, fn_zX D.F sc_kin_of (fun rs L k x h => ?_) fun cdv A outer s H E hr => ?_⟩
  · obtain ⟨_, rfl, _⟩ := h
    rfl
  · have nd := sc_kin_of.nd
    have tk : Takes (cxOf (L2.CX P w) P w K mg base ["number", "found", "at", "others", "figure", "other"] "kin_of" (defScope s_kin_of) f cdv A outer s H E) (fun cls d _ H => E cls d H) := takes_of rfl rfl rfl rfl
    refine ⟨_, (pss_cons (ps_expr (pe_callS G_check_is (hr.mono (by first | decide | omega)) (by rfl) g_check_is kp_check_is b_check_is (fun σ => passAt tk σ) (pa_cons (pe_call G_is_number (hr.mono (by first | decide | omega)) (by rfl) g_is_number kp_is_number b_is_number .nil pass0 (pa_cons (pv 0) pa_nil)) pa_nil)))
    (pss_cons (ps_set (i := 1) nd rfl (by first | exact .inl rfl | exact .inr rfl) (pe_lst pa_nil))
    (pss_cons (ps_for (passes_of rfl) rfl (pi_range1 (by rfl) B_range (pa_cons (pe_glob (v := .int 12) (by rfl) c_LONG ⟨_, rfl⟩) pa_nil)) (pg_name (i := 2) nd rfl (by first | exact .inl rfl | exact .inr rfl))
      (pss_cons (ps_setLc (i := 3) (own := [("figure", 4)]) rfl nd rfl rfl (sw_true rfl rfl rfl (by decide +kernel)) (pi_sq (pe_glob (v := .str "0123456789") (by rfl) c_FIGURES ⟨_, rfl⟩)) (blkOk_by (own := [("figure", 4)]) (N := ["number", "found", "at", "others", "figure", "other"]) (sc := defScope s_kin_of) (by decide +kernel)) (fun _ _ _ _ _ => (pg_name (i := 4) nd rfl (by first | exact .inl rfl | exact .inr rfl))) (fun _ _ _ _ _ => (pts_one (pt_cmpR (opK (r := rNeZ) (K := K) (op_neZ hr.units) (by rfl)) (pv 4) (pe_ix (ixK (r := rIx) (K := K) ix_seq (by rfl)) (pv 0) (pv 2) (fun _ _ => rfl)) (nomark _)))) (fun _ _ _ _ _ => (pe_op (opK (r := rAddZ) (K := K) op_addZ (by rfl)) (pe_op (opK (r := rAddZ) (K := K) op_addZ (by rfl)) (pe_slice (slK (r := rSlZ) (K := K) sl_Z (by rfl)) (pv 0) po_none (po_some (pv 2))) (pv 4)) (pe_slice (slK (r := rSlZ) (K := K) sl_Z (by rfl)) (pv 0) (po_some (pe_op (opK (r := rAddZ) (K := K) op_addZ (by rfl)) (pv 2) pe_int)) po_none))))
      (pss_one (ps_expr (pe_bm PySem.F.plainAttrs_list PySem.F.slot_list_extend PySem.F.type_list_extend mt_extend (pv 1) (pa_cons (pe_lc (own := [("other", 5)]) rfl nd (pi_sq (pv 3)) (blkOk_by (own := [("other", 5)]) (N := ["number", "found", "at", "others", "figure", "other"]) (sc := defScope s_kin_of) (by decide +kernel)) (fun _ _ _ _ _ => (pg_name (i := 5) nd rfl (by first | exact .inl rfl | exact .inr rfl))) (fun _ _ _ _ _ => (pts_one (pt_val (pe_call G_is_sound (hr.mono (by first | decide | omega)) (by rfl) g_is_sound kp_is_sound b_is_sound .nil pass0 (pa_cons (pv 5) pa_nil))))) (fun _ _ _ _ _ => (pv 5))) pa_nil))))))
    (pss_one (ps_ret (pe_callB (call_sortedY rfl) (by rfl) B_sorted (by decide +kernel) (pa_cons (pv 1) pa_nil))))))), fun rs L q x h => ?_⟩
    obtain ⟨v_number, rfl, hq⟩ := h
    refine finX (ca := ca) (enc := (eL eS)) (Lf := fun _ => L) (fun _ => Keeps.refl _) hq ?_
    refine (hv_grd fun g19 => ?_)
    refine (hv_callD (enc := eN) (ea_cons (ev_call (ea_cons (ev_var rfl) ea_nil) fun _ q => ⟨v_number, rfl, accR_ok g19 q⟩) ea_nil) (fun _ _ q => ⟨(m_is_number v_number).get, rfl, q⟩) rfl fun _ => ?_)
    refine (hv_grd fun g18 => ?_)
    refine (hv_narrow tyS (fun z => [some (.dat (eD z)), none, none, none, none, none]) g18 fun v_number => ?_)
    refine (hv_own (e := eS) (ew_lst (ds := ([] : List Str).map eS) ea_nil rfl (szl _ (Nat.le_trans (Nat.le_of_eq (show _ = 0 from rfl)) (by decide)))) fun p_found v_found nin_p_found => ?_)
    refine (hv_grd fun g17 => ?_)
    refine (hv_bind (fun (s : (List Str)) ε' L' => match s with | v_found => ∃ (u2 u3 : Option Rs), ε' = [some (.dat (eS v_number)), some (.own p_found), u2, u3, none, none] ∧ (plus L p_found (v_found.map eS)) = L') (hv_for (fun (s : (List Str)) ε' L' => match s with | v_found => ∃ (u2 u3 : Option Rs), ε' = [some (.dat (eS v_number)), some (.own p_found), u2, u3, none, none] ∧ (plus L p_found (v_found.map eS)) = L') (xs := (rngI 0 (12 : Int))) (g0 := eI) (f := (fun (x1 : Int) (s : (List Str)) => match s with | v_found => (grd ((∀ x3 ∈ (sgns ("0123456789" : Str)), v_number.length ≤ sizeLine ∧ okIx v_number.cps.toList x1 ∧ ((!(x3 == (ixS v_number x1))) = true → v_number.length ≤ sizeLine ∧ (cutStr v_number none (some x1)).length + x3.length ≤ sizeLine ∧ ((cutStr v_number none (some x1)) ++ x3).length + (cutStr v_number (some (x1 + (1 : Int))) none).length ≤ sizeLine)) ∧ (sgns ("0123456789" : Str)).length < sizeLine) (lt (((sgns ("0123456789" : Str)).filter fun x3 : Str => (!(x3 == (ixS v_number x1)))).map fun x3 : Str => (((cutStr v_number none (some x1)) ++ x3) ++ (cutStr v_number (some (x1 + (1 : Int))) none))) fun v_others : (List Str) => (grd ((∀ x9 ∈ v_others, (m_is_sound (eS x9)).isOk = true) ∧ v_others.length < sizeLine ∧ v_found.length + ((v_others.filter fun x9 : Str => (m_is_sound (eS x9)).get).map fun x9 : Str => x9).length ≤ sizeLine) (lt (v_found ++ ((v_others.filter fun x9 : Str => (m_is_sound (eS x9)).get).map fun x9 : Str => x9)) fun v_found : List Str => (.nx v_found))))))) (ei_range1 ev_int g17) ⟨_, _, rfl, rfl⟩ ?_) ?_)
    · rintro x1 v_found _ _ ⟨u2, u3, rfl, rfl⟩
      refine ⟨_, eg_name, ?_⟩
      refine (hv_grd fun g16 => ?_)
      refine (hv_set (e := (eL eS)) (ev_lc (e := eS) (ei_sq ev_str seqS) g16.2 (fun x3 m4 a6 p5 n7 => ⟨_, eg_name, (et_test (ev_op (ev_var rfl) (ev_op (ev_var rfl) (ev_var rfl) fun _ q => od_ixS (g16.1 x3 m4).1 (g16.1 x3 m4).2.1 q) fun _ q => od_ne_str q)), fun h8 => (ev_op (ev_op (ev_sl (ev_var rfl) eo_none (eo_some (ev_var rfl)) fun _ q => sd_strE ((g16.1 x3 m4).2.2 h8).1 q) (ev_var rfl) fun _ q => od_add_str ((g16.1 x3 m4).2.2 h8).2.1 q) (ev_sl (ev_var rfl) (eo_some (ev_op (ev_var rfl) ev_int fun _ q => od_add_int q)) eo_none fun _ q => sd_strE ((g16.1 x3 m4).2.2 h8).1 q) fun _ q => od_add_str ((g16.1 x3 m4).2.2 h8).2.2 q)⟩) gown_name) fun v_others => ?_)
      refine (hv_grd fun g15 => ?_)
      refine (hv_one ?_)
      refine (hv_extE (e := eS) (Lf := fun l' => (plus L p_found (l'.map eS))) rfl (ev_lc (e := eS) (ei_sq (ev_var rfl) seqL) g15.2.1 (fun x9 m10 a12 p11 n13 => ⟨_, eg_name, (et_b (ev_call (ea_cons (ev_var rfl) ea_nil) fun _ q => ⟨(eS x9), rfl, accR_ok (g15.1 x9 m10) q⟩)), fun h14 => (ev_var rfl)⟩) gown_name) plus_mem g15.2.2 (fun l' => by rw [up_plus (nin_of nin_p_found (by simp [plus, plusM, Led.ks]))]) fun v_found => ?_)
      exact (hv_nx ⟨_, _, rfl, rfl⟩)
    · rintro v_found _ _ ⟨u2, u3, rfl, rfl⟩
      refine (hv_wk (M2 := L) (ε' := [some (.dat (eS v_number)), some (.dat ((eL eS) v_found)), none, none, none, none]) (wk_of_sub (by exact List.sublist_append_left _ _)) (evwk_mk (.cons (.mk (.dat _)) (.cons (.mk (.frz plus_mem (nin_of nin_p_found (by simp [plus, plusM, Led.ks])))) (.cons (.no _) (.cons (.no _) (.cons (.no _) (.cons (.no _) .nil))))))) ?_)
      exact (hv_ret (v := (sortS v_found)) (ev_cb (ea_cons (ev_var rfl) ea_nil) fun _ q => cd_sortYS q) (rf_dat (enc := (eL eS)) (Lf := fun _ => L) (r := (sortS v_found)) rfl (wk_of_sub (List.Sublist.refl _))))
abbrev s__law_sum : Stmt := top 26
theorem sc__law_sum : FnScope ["number", "found", "k", "figure"] ["number"] (defScope s__law_sum) := ⟨rfl, rfl, rfl, by decide +kernel, rfl, by decide +kernel, by decide +kernel⟩
abbrev ps__law_sum : List Str := ["number"]
theorem ok__law_sum {f : Addr} {fd : FuncData} (D : DefAt K mg "_law_sum" s__law_sum ps__law_sum f fd) (ca : Nat → Addr) (B_range : mg "range" = none) (B_len : mg "len" = none) (B_int : mg "int" = none) : Has P w K mg base 1 "_law_sum" ps__law_sum (d__law_sum ca) := by
  refine ⟨f, fd, D.g, D.F.kp, D.b, fn_z D.F sc__law_sum (fun rs L k x h => ?_) fun cdv A outer s H E hr => ?_⟩
  · obtain ⟨_, rfl, _⟩ := h
    rfl
  · have nd := sc__law_sum.nd
    refine ⟨_, (pss_cons (ps_set (i := 1) nd rfl (by first | exact .inl rfl | exact .inr rfl) pe_int)
    (pss_cons (ps_for PassesOwn.never rfl (pi_range1 (by rfl) B_range (pa_cons (pe_callB call_lenZ (by rfl) B_len (by decide +kernel) (pa_cons (pv 0) pa_nil)) pa_nil)) (pg_name (i := 2) nd rfl (by first | exact .inl rfl | exact .inr rfl))
      (pss_cons (ps_set (i := 3) nd rfl (by first | exact .inl rfl | exact .inr rfl) (pe_callTy call_intZ (by rfl) B_int (by decide +kernel) (pa_cons (pe_ix ix_seq (pv 0) (pv 2) (fun _ _ => rfl)) pa_nil)))
      (pss_cons (ps_if (pt_cmpR (op_eqZ hr.units) (pe_op op_mod (pe_callTy call_intZ (by rfl) B_int (by decide +kernel) (pa_cons (pv 2) pa_nil)) pe_int) pe_int (nomark _)) (pss_one (ps_set (i := 3) nd rfl (by first | exact .inl rfl | exact .inr rfl) (pe_ix ix_seq (pe_lst (pa_cons (pe_op op_mulY pe_int (pv 3)) (pa_cons (pe_op op_sub (pe_op op_mulY pe_int (pv 3)) pe_int) pa_nil))) (pe_callTy call_intZ (by rfl) B_int (by decide +kernel) (pa_cons (pe_cmpR op_gtZ (pe_op op_mulY pe_int (pv 3)) pe_int (nomark _)) pa_nil)) (fun _ _ => rfl)))) pss_nil)
      (pss_one (ps_set (i := 1) nd rfl (by first | exact .inl rfl | exact .inr rfl) (pe_op op_addZ (pv 1) (pv 3)))))))
    (pss_one (ps_ret (pv 1))))), fun rs L q x h => ?_⟩
    obtain ⟨v_number, rfl, hq⟩ := h
    refine fin0 (ca := ca) (enc := eI) (Lf := fun _ => L) (X := fun _ L' => L' = L) (x := fun _ _ => False) (fun _ => Keeps.refl _) hq ?_
    refine (hv_set (e := eI) ev_int fun v_found => ?_)
    refine (hv_grd fun g8 => ?_)
    refine (hv_bind (fun (s : Int) ε' L' => match s with | v_found => ∃ (u2 u3 : Option Rs), ε' = [some (.dat (eS v_number)), some (.dat (eI v_found)), u2, u3] ∧ L = L') (hv_for (fun (s : Int) ε' L' => match s with | v_found => ∃ (u2 u3 : Option Rs), ε' = [some (.dat (eS v_number)), some (.dat (eI v_found)), u2, u3] ∧ L = L') (xs := (rngI 0 (v_number.length : Int))) (g0 := eI) (f := (fun (x1 : Int) (s : Int) => match s with | v_found => (grd (v_number.length ≤ sizeLine ∧ okIx v_number.cps.toList x1 ∧ okInt (ixS v_number x1) = true) (lt (intS (ixS v_number x1)) fun v_figure : Int => (Ctl.bind (bif (((x1 % (2 : Int)) == (0 : Int))) then (grd (okIx ([((2 : Int) * v_figure), (((2 : Int) * v_figure) - (9 : Int))] : List Int) (if (decide ((9 : Int) < ((2 : Int) * v_figure))) = true then 1 else 0)) (lt (ix ([((2 : Int) * v_figure), (((2 : Int) * v_figure) - (9 : Int))] : List Int) (if (decide ((9 : Int) < ((2 : Int) * v_figure))) = true then 1 else 0)) fun v_figure : Int => (.nx v_figure))) else (.nx v_figure) : Ctl (Int) _ _) fun v_figure => (lt (v_found + v_figure) fun v_found : Int => (.nx v_found))))))) (ei_range1 (ev_cb (ea_cons (ev_var rfl) ea_nil) fun _ q => cd_len_str g8.1 q) g8.2) ⟨_, _, rfl, rfl⟩ ?_) ?_)
    · rintro x1 v_found _ _ ⟨u2, u3, rfl, rfl⟩
      refine ⟨_, eg_name, ?_⟩
      refine (hv_grd fun g7 => ?_)
      refine (hv_set (e := eI) (ev_cb (ea_cons (ev_op (ev_var rfl) (ev_var rfl) fun _ q => od_ixS g7.1 g7.2.1 q) ea_nil) fun _ q => cd_intS g7.2.2 q) fun v_figure => ?_)
      refine (hv_bind (fun (s : Int) ε' L' => match s with | v_figure => ε' = [some (.dat (eS v_number)), some (.dat (eI v_found)), some (.dat (eI x1)), some (.dat (eI v_figure))] ∧ L = L') (hv_ifL (et_test (ev_op (ev_op (ev_cb (ea_cons (ev_var rfl) ea_nil) fun _ q => cd_int_int q) ev_int fun _ q => od_mod (by decide) q) ev_int fun _ q => od_eq_int q)) (fun h3 => ?_) fun h3 => ?_) ?_)
      · refine (hv_grd fun g5 => ?_)
        refine (hv_one ?_)
        refine (hv_set (e := eI) (ev_op (ev_lst (ds := ([((2 : Int) * v_figure), (((2 : Int) * v_figure) - (9 : Int))] : List Int).map eI) (ea_cons (ev_op ev_int (ev_var rfl) fun _ q => od_mulY_int (.inl ⟨by decide, by decide⟩) q) (ea_cons (ev_op (ev_op ev_int (ev_var rfl) fun _ q => od_mulY_int (.inl ⟨by decide, by decide⟩) q) ev_int fun _ q => od_sub q) ea_nil)) rfl (szl _ (Nat.le_trans (Nat.le_of_eq (show _ = 2 from rfl)) (by decide)))) (ev_cb (ea_cons (ev_op (ev_op ev_int (ev_var rfl) fun _ q => od_mulY_int (.inl ⟨by decide, by decide⟩) q) ev_int fun _ q => od_gt q) ea_nil) fun _ q => cd_int_bool q) fun _ q => od_ixL (e := eI) g5 q) fun v_figure => ?_)
        exact (hv_nx ⟨rfl, rfl⟩)
      · exact (hv_nx ⟨rfl, rfl⟩)
      · rintro v_figure _ _ ⟨rfl, rfl⟩
        refine (hv_one ?_)
        refine (hv_set (e := eI) (ev_op (ev_var rfl) (ev_var rfl) fun _ q => od_add_int q) fun v_found => ?_)
        exact (hv_nx ⟨_, _, rfl, rfl⟩)
    · rintro v_found _ _ ⟨u2, u3, rfl, rfl⟩
      exact (hv_ret (v := v_found) (ev_var rfl) (rf_dat (enc := eI) (Lf := fun _ => L) (r := v_found) rfl (wk_of_sub (List.Sublist.refl _))))
abbrev s__law_is_sound : Stmt := top 27
theorem sc__law_is_sound : FnScope ["number"] ["number"] (defScope s__law_is_sound) := ⟨rfl, rfl, rfl, by decide +kernel, rfl, by decide +kernel, by decide +kernel⟩
abbrev ps__law_is_sound : List Str := ["number"]
theorem ok__law_is_sound {f : Addr} {fd : FuncData} (D : DefAt K mg "_law_is_sound" s__law_is_sound ps__law_is_sound f fd) (ca : Nat → Addr) (B_int : mg "int" = none) (H__law_sum : Has P w K mg base 1 "_law_sum" ps__law_sum (d__law_sum ca)) : Has P w K mg base 2 "_law_is_sound" ps__law_is_sound (d__law_is_sound ca) := by
  obtain ⟨f__law_sum, _, g__law_sum, kp__law_sum, b__law_sum, G__law_sum⟩ := id H__law_sum
  refine ⟨f, fd, D.g, D.F.kp, D.b, fn_z D.F sc__law_is_sound (fun rs L k x h => ?_) fun cdv A outer s H E hr => ?_⟩
  · obtain ⟨_, rfl, _⟩ := h
    rfl
  · have nd := sc__law_is_sound.nd
    refine ⟨_, (pss_one (ps_ret (pe_cmpR (op_eqZ hr.units) (pe_op op_mod (pe_callTy call_intZ (by rfl) B_int (by decide +kernel) (pa_cons (pe_call G__law_sum (hr.mono (by first | decide | omega)) (by rfl) g__law_sum kp__law_sum b__law_sum .nil pass0 (pa_cons (pv 0) pa_nil)) pa_nil)) pe_int) pe_int (nomark _)))), fun rs L q x h => ?_⟩
    obtain ⟨v_number, rfl, hq⟩ := h
    refine fin0 (ca := ca) (enc := eB) (Lf := fun _ => L) (X := fun _ L' => L' = L) (x := fun _ _ => False) (fun _ => Keeps.refl _) hq ?_
    refine (hv_grd fun g1 => ?_)
    exact (hv_ret (v := ((((m__law_sum v_number).get % (10 : Int)) == (0 : Int)))) (ev_op (ev_op (ev_cb (ea_cons (ev_call (ea_cons (ev_var rfl) ea_nil) fun _ q => ⟨v_number, rfl, accR_ok g1 q⟩) ea_nil) fun _ q => cd_int_int q) ev_int fun _ q => od_mod (by decide) q) ev_int fun _ q => od_eq_int q) (rf_dat (enc := eB) (Lf := fun _ => L) (r := ((((m__law_sum v_number).get % (10 : Int)) == (0 : Int)))) rfl (wk_of_sub (List.Sublist.refl _))))
abbrev s__law_check : Stmt := top 28
theorem sc__law_check : FnScope ["figures", "figure"] ["figures"] (defScope s__law_check) := ⟨rfl, rfl, rfl, by decide +kernel, rfl, by decide +kernel, by decide +kernel⟩
abbrev ps__law_check : List Str := ["figures"]
theorem ok__law_check {f : Addr} {fd : FuncData} (D : DefAt K mg "_law_check" s__law_check ps__law_check f fd) (ca : Nat → Addr) (H__law_is_sound : Has P w K mg base 2 "_law_is_sound" ps__law_is_sound (d__law_is_sound ca)) : Has P w K mg base 3 "_law_check" ps__law_check (d__law_check ca) := by
  obtain ⟨f__law_is_sound, _, g__law_is_sound, kp__law_is_sound, b__law_is_sound, G__law_is_sound⟩ := id H__law_is_sound
  refine ⟨f, fd, D.g, D.F.kp, D.b, fn_z D.F sc__law_check (fun rs L k x h => ?_) fun cdv A outer s H E hr => ?_⟩
  · obtain ⟨_, rfl, _⟩ := h
    rfl
  · have nd := sc__law_check.nd
    refine ⟨_, (pss_one (ps_ret (pe_ix ix_seq (pe_lc (own := [("figure", 1)]) rfl nd (pi_sq pe_str) (blkOk_by (own := [("figure", 1)]) (N := ["figures", "figure"]) (sc := defScope s__law_check) (by decide +kernel)) (fun _ _ _ _ _ => (pg_name (i := 1) nd rfl (by first | exact .inl rfl | exact .inr rfl))) (fun _ _ _ _ _ => (pts_one (pt_val (pe_call G__law_is_sound (hr.mono (by first | decide | omega)) (by rfl) g__law_is_sound kp__law_is_sound b__law_is_sound .nil pass0 (pa_cons (pe_op (opK (r := rAddZ) (K := K) op_addZ (by rfl)) (pv 0) (pv 1)) pa_nil))))) (fun _ _ _ _ _ => (pv 1))) pe_int (fun _ _ => rfl)))), fun rs L q x h => ?_⟩
    obtain ⟨v_figures, rfl, hq⟩ := h
    refine fin0 (ca := ca) (enc := eS) (Lf := fun _ => L) (X := fun _ L' => L' = L) (x := fun _ _ => False) (fun _ => Keeps.refl _) hq ?_
    refine (hv_grd fun g7 => ?_)
    exact (hv_ret (v := (ix (((sgns ("0123456789" : Str)).filter fun x1 : Str => (m__law_is_sound (v_figures ++ x1)).get).map fun x1 : Str => x1) (0 : Int))) (ev_op (ev_lc (e := eS) (ei_sq ev_str seqS) g7.2.1 (fun x1 m2 a4 p3 n5 => ⟨_, eg_name, (et_b (ev_call (ea_cons (ev_op (ev_var rfl) (ev_var rfl) fun _ q => od_add_str (g7.1 x1 m2).1 q) ea_nil) fun _ q => ⟨(v_figures ++ x1), rfl, accR_ok (g7.1 x1 m2).2 q⟩)), fun h6 => (ev_var rfl)⟩) gown_name) ev_int fun _ q => od_ixL (e := eS) g7.2.2 q) (rf_dat (enc := eS) (Lf := fun _ => L) (r := (ix (((sgns ("0123456789" : Str)).filter fun x1 : Str => (m__law_is_sound (v_figures ++ x1)).get).map fun x1 : Str => x1) (0 : Int))) rfl (wk_of_sub (List.Sublist.refl _))))
abbrev s__law_number : Stmt := top 29
theorem sc__law_number : FnScope ["draws", "figures", "k"] ["draws"] (defScope s__law_number) := ⟨rfl, rfl, rfl, by decide +kernel, rfl, by decide +kernel, by decide +kernel⟩
abbrev ps__law_number : List Str := ["draws"]
theorem ok__law_number {f : Addr} {fd : FuncData} (D : DefAt K mg "_law_number" s__law_number ps__law_number f fd) (ca : Nat → Addr) (B_range : mg "range" = none) (H__law_pick : Has P w K mg base 2 "_law_pick" ps__law_pick (d_pick)) (H__law_check : Has P w K mg base 3 "_law_check" ps__law_check (d__law_check ca)) : Has P w K mg base 4 "_law_number" ps__law_number (d__law_number ca) := by
  obtain ⟨f__law_pick, _, g__law_pick, kp__law_pick, b__law_pick, G__law_pick⟩ := id H__law_pick
  obtain ⟨f__law_check, _, g__law_check, kp__law_check, b__law_check, G__law_check⟩ := id H__law_check
  refine ⟨f, fd, D.g, D.F.kp, D.b, fn_z D.F sc__law_number (fun rs L k x h => ?_) fun cdv A outer s H E hr => ?_⟩
  · obtain ⟨_, _, rfl, _⟩ := h
    rfl
  · have nd := sc__law_number.nd
    refine ⟨_, (pss_cons (ps_set (i := 1) nd rfl (by first | exact .inl rfl | exact .inr rfl) (pe_bm PySem.F.plainAttrs_str PySem.F.slot_str_join PySem.F.type_str_join mt_join pe_str (pa_cons (pe_lc (own := [("k", 2)]) rfl nd (pi_range1 (by rfl) B_range (pa_cons pe_int pa_nil)) (blkOk_by (own := [("k", 2)]) (N := ["draws", "figures", "k"]) (sc := defScope s__law_number) (by decide +kernel)) (fun _ _ _ _ _ => (pg_name (i := 2) nd rfl (by first | exact .inl rfl | exact .inr rfl))) (fun _ _ _ _ _ => pts_nil) (fun _ _ _ _ _ => (pe_call G__law_pick (hr.mono (by first | decide | omega)) (by rfl) g__law_pick kp__law_pick b__law_pick .nil pass0 (pa_cons (pv 0) (pa_cons (pe_op (opK (r := rAddZ) (K := K) op_addZ (by rfl)) pe_str pe_str) pa_nil))))) pa_nil)))
    (pss_one (ps_ret (pe_op op_addZ (pv 1) (pe_call G__law_pick (hr.mono (by first | decide | omega)) (by rfl) g__law_pick kp__law_pick b__law_pick .nil pass0 (pa_cons (pv 0) (pa_cons (pe_lst (pa_cons (pe_call G__law_check (hr.mono (by first | decide | omega)) (by rfl) g__law_check kp__law_check b__law_check .nil pass0 (pa_cons (pv 1) pa_nil)) (pa_cons (pe_call G__law_check (hr.mono (by first | decide | omega)) (by rfl) g__law_check kp__law_check b__law_check .nil pass0 (pa_cons (pv 1) pa_nil)) (pa_cons (pe_call G__law_pick (hr.mono (by first | decide | omega)) (by rfl) g__law_pick kp__law_pick b__law_pick .nil pass0 (pa_cons (pv 0) (pa_cons pe_str pa_nil))) pa_nil)))) pa_nil))))))), fun rs L q x h => ?_⟩
    obtain ⟨v_draws, p_draws, rfl, hm, hq⟩ := h
    have hk_p_draws : p_draws ∈ L.ks := Led.key hm
    refine fin1 (ca := ca) (enc := fun r : Str × List Nat => eS r.1) (Lf := fun r => up L p_draws (.lst (r.2.map natD))) (X := fun _ L' => L' = L) (fun _ => keeps_up) hq ?_
    refine hv_base hm ?_
    refine (hv_grd fun g8 => ?_)
    refine (hv_set (e := eS) (ev_join ev_str (ev_lcS (e := eS) (Lf := (fun d6 : List Nat => (up L p_draws (.lst (d6.map natD))))) (f := (fun (x1 : Int) (d6 : List Nat) => ((pkV d6 (sgns (("0123456789" : Str) ++ ("0909" : Str)))), (tkD d6)))) (by intro _ _; simp [plus, Led.ks, up_ks]) (ei_range1 ev_int g8.1) g8.2.2.1 (fun x1 m2 d6 a4 p3 n5 => ⟨_, eg_name, (ev_pickS (L2 := (plus (up L p_draws (.lst ((tkD d6).map natD))) p3 a4)) rfl (ev_op ev_str ev_str fun _ q => od_add_str (g8.2.1 x1 m2 d6).1 q) (plus_old (mem_up hk_p_draws)) (g8.2.1 x1 m2 d6).2.1 (g8.2.1 x1 m2 d6).2.2 (by rw [up_plus_ne (ne_of_nin n5 (Led.key (mem_up hk_p_draws))), up_up]))⟩) gown_name) g8.2.2.2) fun v_figures => ?_)
    refine (hv_ltL (Lf := fun v_draws : List Nat => (up L p_draws (.lst (v_draws.map natD)))) fun v_draws => ?_)
    refine (hv_grd fun g7 => ?_)
    exact (hv_ret (v := ((v_figures ++ (pkV (tkD v_draws) ([(m__law_check v_figures).get, (m__law_check v_figures).get, (pkV v_draws (sgns ("0123456789" : Str)))] : List Str))), (tkD (tkD v_draws)))) (ev_op (ev_var rfl) (ev_pickL (e := eS) (L2 := (up L p_draws (.lst ((tkD (tkD v_draws)).map natD)))) rfl (ev_lst (ds := ([(m__law_check v_figures).get, (m__law_check v_figures).get, (pkV v_draws (sgns ("0123456789" : Str)))] : List Str).map eS) (ea_cons (ev_call (ea_cons (ev_var rfl) ea_nil) fun _ q => ⟨v_figures, rfl, accR_ok g7.1 q⟩) (ea_cons (ev_call (ea_cons (ev_var rfl) ea_nil) fun _ q => ⟨v_figures, rfl, accR_ok g7.1 q⟩) (ea_cons (ev_pickS (L2 := (up L p_draws (.lst ((tkD v_draws).map natD)))) rfl ev_str (mem_up hk_p_draws) g7.2.1 g7.2.2.1 (by rw [up_up])) ea_nil))) rfl (szl _ (Nat.le_trans (Nat.le_of_eq (show _ = 3 from rfl)) (by decide)))) (mem_up hk_p_draws) g7.2.2.2.1 (by rw [up_up])) fun _ q => od_add_str g7.2.2.2.2 q) (rf_dat (enc := fun r : Str × List Nat => eS r.1) (Lf := fun r => up L p_draws (.lst (r.2.map natD))) (r := ((v_figures ++ (pkV (tkD v_draws) ([(m__law_check v_figures).get, (m__law_check v_figures).get, (pkV v_draws (sgns ("0123456789" : Str)))] : List Str))), (tkD (tkD v_draws)))) rfl (wk_of_sub (List.Sublist.refl _))))
abbrev s__law_told : Stmt := top 30
theorem sc__law_told : FnScope ["which", "value", "e"] ["which", "value"] (defScope s__law_told) := ⟨rfl, rfl, rfl, by decide +kernel, rfl, by decide +kernel, by decide +kernel⟩
abbrev ps__law_told : List Str := ["which", "value"]
theorem ok__law_told {f : Addr} {fd : FuncData} (D : DefAt K mg "_law_told" s__law_told ps__law_told f fd) (ca : Nat → Addr) {cY : Addr} {csA : List Addr} (g_YardError : mg "YardError" = some (.ref cY)) (H__law_flags : HasQ P w K mg base 1 "_law_flags" ps__law_flags (spFlags K csA)) (FL : ∀ c ∈ [0], FlagsAt K (ca c) csA (flV c)) (EX : ∀ c ∈ [0], PySem.W.exmOne K (.ref (ca c)) (.ref cY) = some true) (H_check_figure : HasX P w K mg base 3 "check_figure" ps_check_figure (d_check_figure ca)) (H_sum_of : HasX P w K mg base 3 "sum_of" ps_sum_of (d_sum_of ca)) (H_slips_of : HasX P w K mg base 4 "slips_of" ps_slips_of (d_slips_of ca)) (H_kin_of : HasX P w K mg base 4 "kin_of" ps_kin_of (d_kin_of ca)) : Has P w K mg base 5 "_law_told" ps__law_told (d__law_told ca) := by
  obtain ⟨f__law_flags, _, g__law_flags, kp__law_flags, b__law_flags, G__law_flags⟩ := id H__law_flags
  obtain ⟨f_check_figure, _, g_check_figure, kp_check_figure, b_check_figure, G_check_figure⟩ := id H_check_figure
  obtain ⟨_, _, g0_check_figure, kp0_check_figure, b0_check_figure, G0_check_figure⟩ := has0 H_check_figure
  obtain ⟨f_sum_of, _, g_sum_of, kp_sum_of, b_sum_of, G_sum_of⟩ := id H_sum_of
  obtain ⟨_, _, g0_sum_of, kp0_sum_of, b0_sum_of, G0_sum_of⟩ := has0 H_sum_of
  obtain ⟨f_slips_of, _, g_slips_of, kp_slips_of, b_slips_of, G_slips_of⟩ := id H_slips_of
  obtain ⟨_, _, g0_slips_of, kp0_slips_of, b0_slips_of, G0_slips_of⟩ := has0 H_slips_of
  obtain ⟨f_kin_of, _, g_kin_of, kp_kin_of, b_kin_of, G_kin_of⟩ := id H_kin_of
  obtain ⟨_, _, g0_kin_of, kp0_kin_of, b0_kin_of, G0_kin_of⟩ := has0 H_kin_of
  have hKV : ∀ f sp, knD K (fun f d => (f = f_check_figure ∧ d = d_check_figure ca) ∨ (f = f_sum_of ∧ d = d_sum_of ca) ∨ (f = f_slips_of ∧ d = d_slips_of ca) ∨ (f = f_kin_of ∧ d = d_kin_of ca)) f sp → ∃ fd ps, FnOk P w K mg base (L2.CX P w) 4 f fd ps sp ∧ PySem.W.keepIn K (.ref f) = true ∧ Binds K fd ps [] := by
    rintro f sp ⟨d, hd, rfl⟩
    rcases hd with ⟨rfl, rfl⟩ | ⟨rfl, rfl⟩ | ⟨rfl, rfl⟩ | ⟨rfl, rfl⟩
    · exact ⟨_, _, G_check_figure.mono (by decide), kp_check_figure, b_check_figure⟩
    · exact ⟨_, _, G_sum_of.mono (by decide), kp_sum_of, b_sum_of⟩
    · exact ⟨_, _, G_slips_of.mono (by decide), kp_slips_of, b_slips_of⟩
    · exact ⟨_, _, G_kin_of.mono (by decide), kp_kin_of, b_kin_of⟩
  refine ⟨f, fd, D.g, D.F.kp, D.b, fn_z D.F sc__law_told (fun rs L k x h => ?_) fun cdv A outer s H E hr => ?_⟩
  · obtain ⟨_, _, rfl, _⟩ := h
    rfl
  · have nd := sc__law_told.nd
    refine ⟨_, (pss_one (ps_tryY (i := 2) (Wout := fun _ _ _ _ => False) rfl rfl nd rfl rfl ⟨rfl, by decide, .inl g_YardError⟩ takes0 (fun W pn xe tk _ => (pss_one (ps_ret (pe_callV hKV (hr.mono (by first | decide | omega)) (fun σ => passAt tk σ) (pe_ix (ixK (r := rIx) (K := K) ix_seq (by rfl)) (pe_lst (pa_cons (pe_glob (v := .ref f_check_figure) (by rfl) g_check_figure rfl) (pa_cons (pe_glob (v := .ref f_sum_of) (by rfl) g_sum_of rfl) (pa_cons (pe_glob (v := .ref f_slips_of) (by rfl) g_slips_of rfl) (pa_cons (pe_glob (v := .ref f_kin_of) (by rfl) g_kin_of rfl) pa_nil))))) (pv 0) (fun _ _ => rfl)) (pa_cons (pv 1) pa_nil))))) (fun a oe cls d pn hz hf => (pss_one (ps_ret (pe_callQ G__law_flags (roomQ hr (by first | decide | omega)) hz hf (by rfl) g__law_flags kp__law_flags b__law_flags (pa_cons (pv 2) pa_nil))))))), fun rs L q x h => ?_⟩
    obtain ⟨v_which, v_value, rfl, hq⟩ := h
    refine fin0 (ca := ca) (enc := eD) (Lf := fun _ => L) (X := fun _ L' => L' = L) (x := fun _ _ => False) (fun _ => Keeps.refl _) hq ?_
    refine (hv_tryAs (i := 2) (Wout := fun _ _ _ _ => False) (fun W kx => ?_) EX fun cc hcc aa => ?_)
    · refine (hv_sel (fun h4 => ?_) fun _ => ?_)
      · exact (hv_retV (ws := [.ref f_check_figure, .ref f_sum_of, .ref f_slips_of, .ref f_kin_of]) (i := 0) (f := f_check_figure) (d := d_check_figure ca) (enc := eS) (g := eS) (ea_cons ev_ref (ea_cons ev_ref (ea_cons ev_ref (ea_cons ev_ref ea_nil)))) (szl _ (by simp)) (ev_as (ev_var rfl) (by rw [beq_iff_eq.mp h4])) rfl (Or.inl ⟨rfl, rfl⟩) (ea_cons (ev_var rfl) ea_nil) (fun _ _ q => ⟨v_value, rfl, q⟩) ⟨rfl, rfl⟩ fun r => rf_dat (enc := eD) (Lf := fun _ => L) (r := eS r) rfl (wk_of_sub (List.Sublist.refl _)))
      · refine (hv_sel (fun h3 => ?_) fun _ => ?_)
        · exact (hv_retV (ws := [.ref f_check_figure, .ref f_sum_of, .ref f_slips_of, .ref f_kin_of]) (i := 1) (f := f_sum_of) (d := d_sum_of ca) (enc := eI) (g := eI) (ea_cons ev_ref (ea_cons ev_ref (ea_cons ev_ref (ea_cons ev_ref ea_nil)))) (szl _ (by simp)) (ev_as (ev_var rfl) (by rw [beq_iff_eq.mp h3])) rfl (Or.inr (Or.inl ⟨rfl, rfl⟩)) (ea_cons (ev_var rfl) ea_nil) (fun _ _ q => ⟨v_value, rfl, q⟩) ⟨rfl, rfl⟩ fun r => rf_dat (enc := eD) (Lf := fun _ => L) (r := eI r) rfl (wk_of_sub (List.Sublist.refl _)))
        · refine (hv_sel (fun h2 => ?_) fun _ => ?_)
          · exact (hv_retV (ws := [.ref f_check_figure, .ref f_sum_of, .ref f_slips_of, .ref f_kin_of]) (i := 2) (f := f_slips_of) (d := d_slips_of ca) (enc := (eL eS)) (g := (eL eS)) (ea_cons ev_ref (ea_cons ev_ref (ea_cons ev_ref (ea_cons ev_ref ea_nil)))) (szl _ (by simp)) (ev_as (ev_var rfl) (by rw [beq_iff_eq.mp h2])) rfl (Or.inr (Or.inr (Or.inl ⟨rfl, rfl⟩))) (ea_cons (ev_var rfl) ea_nil) (fun _ _ q => ⟨v_value, rfl, q⟩) ⟨rfl, rfl⟩ fun r => rf_dat (enc := eD) (Lf := fun _ => L) (r := (eL eS) r) rfl (wk_of_sub (List.Sublist.refl _)))
          · refine (hv_sel (fun h1 => ?_) fun _ => ?_)
            · exact (hv_retV (ws := [.ref f_check_figure, .ref f_sum_of, .ref f_slips_of, .ref f_kin_of]) (i := 3) (f := f_kin_of) (d := d_kin_of ca) (enc := (eL eS)) (g := (eL eS)) (ea_cons ev_ref (ea_cons ev_ref (ea_cons ev_ref (ea_cons ev_ref ea_nil)))) (szl _ (by simp)) (ev_as (ev_var rfl) (by rw [beq_iff_eq.mp h1])) rfl (Or.inr (Or.inr (Or.inr ⟨rfl, rfl⟩))) (ea_cons (ev_var rfl) ea_nil) (fun _ _ q => ⟨v_value, rfl, q⟩) ⟨rfl, rfl⟩ fun r => rf_dat (enc := eD) (Lf := fun _ => L) (r := (eL eS) r) rfl (wk_of_sub (List.Sublist.refl _)))
            · exact (fun P A => A.elim)
    · exact (hv_ret (v := ((eL eB) (flV cc))) (ev_flags (FL cc hcc) rfl) (rf_dat (enc := eD) (Lf := fun _ => L) (r := ((eL eB) (flV cc))) rfl (wk_of_sub (List.Sublist.refl _))))
abbrev s_law : Stmt := top 31
theorem sc_law : FnScope ["script", "draws", "refused", "turn", "number", "sound", "swaps", "k", "slips", "other", "kin", "figure", "due", "told", "which", "at", "bent", "value"] ["script"] (defScope s_law) := ⟨rfl, rfl, rfl, by decide +kernel, rfl, by decide +kernel, by decide +kernel⟩
abbrev ps_law : List Str := ["script"]
theorem ok_law {f : Addr} {fd : FuncData} (D : DefAt K mg "law" s_law ps_law f fd) (ca : Nat → Addr) (B_range : mg "range" = none) (B_int : mg "int" = none) (B_sorted : mg "sorted" = none) (B_set : mg "set" = none) (H__law_draws : Has P w K mg base 1 "_law_draws" ps__law_draws (d_draws)) (H__law_number : Has P w K mg base 4 "_law_number" ps__law_number (d__law_number ca)) (H__law_take : Has P w K mg base 1 "_law_take" ps__law_take (d_take)) (H__law_same : Has P w K mg base 9 "_law_same" ps__law_same (d_same)) (H__law_is_sound : Has P w K mg base 2 "_law_is_sound" ps__law_is_sound (d__law_is_sound ca)) (H__law_check : Has P w K mg base 3 "_law_check" ps__law_check (d__law_check ca)) (H__law_sum : Has P w K mg base 1 "_law_sum" ps__law_sum (d__law_sum ca)) (H__law_pick : Has P w K mg base 2 "_law_pick" ps__law_pick (d_pick)) (H_check_figure : HasX P w K mg base 3 "check_figure" ps_check_figure (d_check_figure ca)) (H_sum_of : HasX P w K mg base 3 "sum_of" ps_sum_of (d_sum_of ca)) (H_slips_of : HasX P w K mg base 4 "slips_of" ps_slips_of (d_slips_of ca)) (H__law_told : Has P w K mg base 5 "_law_told" ps__law_told (d__law_told ca)) (H_is_number : Has P w K mg base 2 "is_number" ps_is_number (d_is_number ca)) (H_is_sound : Has P w K mg base 3 "is_sound" ps_is_sound (d_is_sound ca)) (hlaw : ∀ ds, m_law ds = .ok true) : FnOk P w K mg base CX0 10 f fd ps_law (lift K dLaw) := by
  obtain ⟨f__law_draws, _, g__law_draws, kp__law_draws, b__law_draws, G__law_draws⟩ := id H__law_draws
  obtain ⟨f__law_number, _, g__law_number, kp__law_number, b__law_number, G__law_number⟩ := id H__law_number
  obtain ⟨f__law_take, _, g__law_take, kp__law_take, b__law_take, G__law_take⟩ := id H__law_take
  obtain ⟨f__law_same, _, g__law_same, kp__law_same, b__law_same, G__law_same⟩ := id H__law_same
  obtain ⟨f__law_is_sound, _, g__law_is_sound, kp__law_is_sound, b__law_is_sound, G__law_is_sound⟩ := id H__law_is_sound
  obtain ⟨f__law_check, _, g__law_check, kp__law_check, b__law_check, G__law_check⟩ := id H__law_check
  obtain ⟨f__law_sum, _, g__law_sum, kp__law_sum, b__law_sum, G__law_sum⟩ := id H__law_sum
  obtain ⟨f__law_pick, _, g__law_pick, kp__law_pick, b__law_pick, G__law_pick⟩ := id H__law_pick
  obtain ⟨f_check_figure, _, g_check_figure, kp_check_figure, b_check_figure, G_check_figure⟩ := id H_check_figure
  obtain ⟨_, _, g0_check_figure, kp0_check_figure, b0_check_figure, G0_check_figure⟩ := has0 H_check_figure
  obtain ⟨f_sum_of, _, g_sum_of, kp_sum_of, b_sum_of, G_sum_of⟩ := id H_sum_of
  obtain ⟨_, _, g0_sum_of, kp0_sum_of, b0_sum_of, G0_sum_of⟩ := has0 H_sum_of
  obtain ⟨f_slips_of, _, g_slips_of, kp_slips_of, b_slips_of, G_slips_of⟩ := id H_slips_of
  obtain ⟨_, _, g0_slips_of, kp0_slips_of, b0_slips_of, G0_slips_of⟩ := has0 H_slips_of
  obtain ⟨f__law_told, _, g__law_told, kp__law_told, b__law_told, G__law_told⟩ := id H__law_told
  obtain ⟨f_is_number, _, g_is_number, kp_is_number, b_is_number, G_is_number⟩ := id H_is_number
  obtain ⟨f_is_sound, _, g_is_sound, kp_is_sound, b_is_sound, G_is_sound⟩ := id H_is_sound
  refine fn_z D.F sc_law (fun rs L k x h => ?_) fun cdv A outer s H E hr => ?_
  · obtain ⟨b, rfl, _⟩ := h
    rfl
  · have nd := sc_law.nd
    refine ⟨_, (pss_cons (ps_set (i := 1) nd rfl (by first | exact .inl rfl | exact .inr rfl) (pe_call G__law_draws (hr.mono (by first | decide | omega)) (by rfl) g__law_draws kp__law_draws b__law_draws .nil pass0 (pa_cons (pv 0) pa_nil)))
    (pss_cons (ps_set (i := 2) nd rfl (by first | exact .inl rfl | exact .inr rfl) (pe_lst (pa_cons pe_bl (pa_cons pe_bl (pa_cons pe_bl (pa_cons pe_bl (pa_cons pe_bl pa_nil)))))))
    (pss_cons (ps_for PassesOwn.never rfl (pi_range1 (by rfl) B_range (pa_cons pe_int pa_nil)) (pg_name (i := 3) nd rfl (by first | exact .inl rfl | exact .inr rfl))
      (pss_cons (ps_set (i := 4) nd rfl (by first | exact .inl rfl | exact .inr rfl) (pe_call G__law_number (hr.mono (by first | decide | omega)) (by rfl) g__law_number kp__law_number b__law_number .nil pass0 (pa_cons (pv 1) pa_nil)))
      (pss_cons (ps_set (i := 5) nd rfl (by first | exact .inl rfl | exact .inr rfl) (pe_call G__law_is_sound (hr.mono (by first | decide | omega)) (by rfl) g__law_is_sound kp__law_is_sound b__law_is_sound .nil pass0 (pa_cons (pv 4) pa_nil)))
      (pss_cons (ps_setLc (i := 6) (own := [("k", 7)]) rfl nd rfl rfl (sw_true rfl rfl rfl (by decide +kernel)) (pi_range1 (by rfl) B_range (pa_cons pe_int pa_nil)) (blkOk_by (own := [("k", 7)]) (N := ["script", "draws", "refused", "turn", "number", "sound", "swaps", "k", "slips", "other", "kin", "figure", "due", "told", "which", "at", "bent", "value"]) (sc := defScope s_law) (by decide +kernel)) (fun _ _ _ _ _ => (pg_name (i := 7) nd rfl (by first | exact .inl rfl | exact .inr rfl))) (fun _ _ _ _ _ => pts_nil) (fun _ _ _ _ _ => (pe_op (opK (r := rAddZ) (K := K) op_addZ (by rfl)) (pe_op (opK (r := rAddZ) (K := K) op_addZ (by rfl)) (pe_op (opK (r := rAddZ) (K := K) op_addZ (by rfl)) (pe_slice (slK (r := rSlZ) (K := K) sl_Z (by rfl)) (pv 4) po_none (po_some (pv 7))) (pe_ix (ixK (r := rIx) (K := K) ix_seq (by rfl)) (pv 4) (pe_op (opK (r := rAddZ) (K := K) op_addZ (by rfl)) (pv 7) pe_int) (fun _ _ => rfl))) (pe_ix (ixK (r := rIx) (K := K) ix_seq (by rfl)) (pv 4) (pv 7) (fun _ _ => rfl))) (pe_slice (slK (r := rSlZ) (K := K) sl_Z (by rfl)) (pv 4) (po_some (pe_op (opK (r := rAddZ) (K := K) op_addZ (by rfl)) (pv 7) pe_int)) po_none))))
      (pss_cons (ps_set (i := 8) nd rfl (by first | exact .inl rfl | exact .inr rfl) (pv 2))
      (pss_cons (ps_if (pt_val (pv 5)) (pss_one (ps_set (i := 8) nd rfl (by first | exact .inl rfl | exact .inr rfl) (pe_callB (cr_sortSetY rfl) (by rfl) B_sorted (by decide +kernel) (pa_cons (pe_callTy (cr_setY rfl) (by rfl) B_set (by decide +kernel) (pa_cons (pe_lc (own := [("other", 9)]) rfl nd (pi_sq (pv 6)) (blkOk_by (own := [("other", 9)]) (N := ["script", "draws", "refused", "turn", "number", "sound", "swaps", "k", "slips", "other", "kin", "figure", "due", "told", "which", "at", "bent", "value"]) (sc := defScope s_law) (by decide +kernel)) (fun _ _ _ _ _ => (pg_name (i := 9) nd rfl (by first | exact .inl rfl | exact .inr rfl))) (fun _ _ _ _ _ => (pts_one (PW.pt (pw_and (pt_cmpR (opK (r := rNeZ) (K := K) (op_neZ hr.units) (by rfl)) (pv 9) (pv 4) (nomark _)) (pw_and1 (pt_val (pe_call G__law_is_sound (hr.mono (by first | decide | omega)) (by rfl) g__law_is_sound kp__law_is_sound b__law_is_sound .nil pass0 (pa_cons (pv 9) pa_nil)))))))) (fun _ _ _ _ _ => (pv 9))) pa_nil)) pa_nil)))) pss_nil)
      (pss_cons (ps_set (i := 10) nd rfl (by first | exact .inl rfl | exact .inr rfl) (pe_lst pa_nil))
      (pss_cons (ps_for PassesOwn.never rfl (pi_range1 (by rfl) B_range (pa_cons pe_int pa_nil)) (pg_name (i := 7) nd rfl (by first | exact .inl rfl | exact .inr rfl))
        (pss_one (ps_set (i := 10) nd rfl (by first | exact .inl rfl | exact .inr rfl) (pe_op op_addZ (pv 10) (pe_lc (own := [("figure", 11)]) rfl nd (pi_sq pe_str) (blkOk_by (own := [("figure", 11)]) (N := ["script", "draws", "refused", "turn", "number", "sound", "swaps", "k", "slips", "other", "kin", "figure", "due", "told", "which", "at", "bent", "value"]) (sc := defScope s_law) (by decide +kernel)) (fun _ _ _ _ _ => (pg_name (i := 11) nd rfl (by first | exact .inl rfl | exact .inr rfl))) (fun _ _ _ _ _ => (pts_one (pt_cmpR (opK (r := rNeZ) (K := K) (op_neZ hr.units) (by rfl)) (pv 11) (pe_ix (ixK (r := rIx) (K := K) ix_seq (by rfl)) (pv 4) (pv 7) (fun _ _ => rfl)) (nomark _)))) (fun _ _ _ _ _ => (pe_op (opK (r := rAddZ) (K := K) op_addZ (by rfl)) (pe_op (opK (r := rAddZ) (K := K) op_addZ (by rfl)) (pe_slice (slK (r := rSlZ) (K := K) sl_Z (by rfl)) (pv 4) po_none (po_some (pv 7))) (pv 11)) (pe_slice (slK (r := rSlZ) (K := K) sl_Z (by rfl)) (pv 4) (po_some (pe_op (opK (r := rAddZ) (K := K) op_addZ (by rfl)) (pv 7) pe_int)) po_none))))))))
      (pss_cons (ps_set (i := 12) nd rfl (by first | exact .inl rfl | exact .inr rfl) (pe_lst (pa_cons (pe_call G__law_check (hr.mono (by first | decide | omega)) (by rfl) g__law_check kp__law_check b__law_check .nil pass0 (pa_cons (pe_slice sl_Z (pv 4) po_none (po_some pe_int)) pa_nil)) (pa_cons (pe_call G__law_sum (hr.mono (by first | decide | omega)) (by rfl) g__law_sum kp__law_sum b__law_sum .nil pass0 (pa_cons (pv 4) pa_nil)) (pa_cons (pv 8) (pa_cons (pe_callB (call_sortedY rfl) (by rfl) B_sorted (by decide +kernel) (pa_cons (pe_lc (own := [("other", 9)]) rfl nd (pi_sq (pv 10)) (blkOk_by (own := [("other", 9)]) (N := ["script", "draws", "refused", "turn", "number", "sound", "swaps", "k", "slips", "other", "kin", "figure", "due", "told", "which", "at", "bent", "value"]) (sc := defScope s_law) (by decide +kernel)) (fun _ _ _ _ _ => (pg_name (i := 9) nd rfl (by first | exact .inl rfl | exact .inr rfl))) (fun _ _ _ _ _ => (pts_one (pt_val (pe_call G__law_is_sound (hr.mono (by first | decide | omega)) (by rfl) g__law_is_sound kp__law_is_sound b__law_is_sound .nil pass0 (pa_cons (pv 9) pa_nil))))) (fun _ _ _ _ _ => (pv 9))) pa_nil)) pa_nil))))))
      (pss_cons (ps_set (i := 13) nd rfl (by first | exact .inl rfl | exact .inr rfl) (pe_op op_addZ (pe_lst (pa_cons (pe_call G__law_told (hr.mono (by first | decide | omega)) (by rfl) g__law_told kp__law_told b__law_told .nil pass0 (pa_cons pe_int (pa_cons (pe_slice sl_Z (pv 4) po_none (po_some pe_int)) pa_nil))) pa_nil)) (pe_lc (own := [("which", 14)]) rfl nd (pi_sq (pe_lst (pa_cons pe_int (pa_cons pe_int (pa_cons pe_int pa_nil))))) (blkOk_by (own := [("which", 14)]) (N := ["script", "draws", "refused", "turn", "number", "sound", "swaps", "k", "slips", "other", "kin", "figure", "due", "told", "which", "at", "bent", "value"]) (sc := defScope s_law) (by decide +kernel)) (fun _ _ _ _ _ => (pg_name (i := 14) nd rfl (by first | exact .inl rfl | exact .inr rfl))) (fun _ _ _ _ _ => pts_nil) (fun _ _ _ _ _ => (pe_call G__law_told (hr.mono (by first | decide | omega)) (by rfl) g__law_told kp__law_told b__law_told .nil pass0 (pa_cons (pv 14) (pa_cons (pv 4) pa_nil)))))))
      (pss_cons (ps_if (pt_not (pt_val (pe_call G__law_same (hr.mono (by first | decide | omega)) (by rfl) g__law_same kp__law_same b__law_same .nil pass0 (pa_cons (pe_op op_addZ (pe_lst (pa_cons (pe_call G_is_number (hr.mono (by first | decide | omega)) (by rfl) g_is_number kp_is_number b_is_number .nil pass0 (pa_cons (pv 4) pa_nil)) (pa_cons (pe_call G_is_sound (hr.mono (by first | decide | omega)) (by rfl) g_is_sound kp_is_sound b_is_sound .nil pass0 (pa_cons (pv 4) pa_nil)) pa_nil))) (pv 13)) (pa_cons (pe_op op_addZ (pe_lst (pa_cons pe_bl (pa_cons (pv 5) pa_nil))) (pv 12)) pa_nil))))) (pss_one (ps_ret pe_bl)) pss_nil)
      (pss_one (ps_for PassesOwn.never rfl (pi_sq (pe_lst (pa_cons (pe_call G__law_pick (hr.mono (by first | decide | omega)) (by rfl) g__law_pick kp__law_pick b__law_pick .nil pass0 (pa_cons (pv 1) (pa_cons (pv 6) pa_nil))) (pa_cons (pe_call G__law_pick (hr.mono (by first | decide | omega)) (by rfl) g__law_pick kp__law_pick b__law_pick .nil pass0 (pa_cons (pv 1) (pa_cons (pv 10) pa_nil))) pa_nil)))) (pg_name (i := 9) nd rfl (by first | exact .inl rfl | exact .inr rfl))
        (pss_one (ps_if (pt_not (pt_val (pe_call G__law_same (hr.mono (by first | decide | omega)) (by rfl) g__law_same kp__law_same b__law_same .nil pass0 (pa_cons (pe_lst (pa_cons (pe_call G_is_number (hr.mono (by first | decide | omega)) (by rfl) g_is_number kp_is_number b_is_number .nil pass0 (pa_cons (pv 9) pa_nil)) (pa_cons (pe_call G_is_sound (hr.mono (by first | decide | omega)) (by rfl) g_is_sound kp_is_sound b_is_sound .nil pass0 (pa_cons (pv 9) pa_nil)) (pa_cons (pe_call G__law_told (hr.mono (by first | decide | omega)) (by rfl) g__law_told kp__law_told b__law_told .nil pass0 (pa_cons pe_int (pa_cons (pv 9) pa_nil))) pa_nil)))) (pa_cons (pe_lst (pa_cons pe_bl (pa_cons (pe_call G__law_is_sound (hr.mono (by first | decide | omega)) (by rfl) g__law_is_sound kp__law_is_sound b__law_is_sound .nil pass0 (pa_cons (pv 9) pa_nil)) (pa_cons (pe_call G__law_sum (hr.mono (by first | decide | omega)) (by rfl) g__law_sum kp__law_sum b__law_sum .nil pass0 (pa_cons (pv 9) pa_nil)) pa_nil)))) pa_nil))))) (pss_one (ps_ret pe_bl)) pss_nil)))))))))))))))
    (pss_cons (ps_set (i := 4) nd rfl (by first | exact .inl rfl | exact .inr rfl) (pe_call G__law_number (hr.mono (by first | decide | omega)) (by rfl) g__law_number kp__law_number b__law_number .nil pass0 (pa_cons (pv 1) pa_nil)))
    (pss_cons (ps_set (i := 15) nd rfl (by first | exact .inl rfl | exact .inr rfl) (pe_call G__law_take (hr.mono (by first | decide | omega)) (by rfl) g__law_take kp__law_take b__law_take .nil pass0 (pa_cons (pv 1) (pa_cons pe_int pa_nil))))
    (pss_cons (ps_set (i := 16) nd rfl (by first | exact .inl rfl | exact .inr rfl) (pe_op op_addZ (pe_op op_addZ (pe_slice sl_Z (pv 4) po_none (po_some (pv 15))) (pe_call G__law_pick (hr.mono (by first | decide | omega)) (by rfl) g__law_pick kp__law_pick b__law_pick .nil pass0 (pa_cons (pv 1) (pa_cons (pe_lst (pa_cons pe_str (pa_cons pe_str (pa_cons pe_str (pa_cons pe_str (pa_cons pe_str pa_nil)))))) pa_nil)))) (pe_slice sl_Z (pv 4) (po_some (pe_op op_addZ (pv 15) pe_int)) po_none)))
    (pss_cons (ps_for PassesOwn.never rfl (pi_sq (pe_lst (pa_cons (pe_slice sl_Z (pv 4) po_none (po_some pe_int)) (pa_cons (pe_op op_addZ (pv 4) pe_str) (pa_cons (pv 16) (pa_cons pe_str (pa_cons pe_non (pa_cons (pe_callTy call_intZ (by rfl) B_int (by decide +kernel) (pa_cons (pv 4) pa_nil)) (pa_cons pe_bl (pa_cons (pe_tup (pa_cons (pv 4) pa_nil)) (pa_cons (pe_lst (pa_cons (pv 4) pa_nil)) (pa_cons (pe_op op_addZ (pe_slice sl_Z (pv 4) po_none (po_some (pv 15))) (pe_slice sl_Z (pv 4) (po_some (pe_op op_addZ (pv 15) pe_int)) po_none)) pa_nil)))))))))))) (pg_name (i := 17) nd rfl (by first | exact .inl rfl | exact .inr rfl))
      (pss_one (ps_if (pt_not (pt_val (pe_call G__law_same (hr.mono (by first | decide | omega)) (by rfl) g__law_same kp__law_same b__law_same .nil pass0 (pa_cons (pe_lst (pa_cons (pe_call G_is_number (hr.mono (by first | decide | omega)) (by rfl) g_is_number kp_is_number b_is_number .nil pass0 (pa_cons (pv 17) pa_nil)) (pa_cons (pe_call G_is_sound (hr.mono (by first | decide | omega)) (by rfl) g_is_sound kp_is_sound b_is_sound .nil pass0 (pa_cons (pv 17) pa_nil)) (pa_cons (pe_call G__law_told (hr.mono (by first | decide | omega)) (by rfl) g__law_told kp__law_told b__law_told .nil pass0 (pa_cons pe_int (pa_cons (pv 17) pa_nil))) (pa_cons (pe_call G__law_told (hr.mono (by first | decide | omega)) (by rfl) g__law_told kp__law_told b__law_told .nil pass0 (pa_cons pe_int (pa_cons (pv 17) pa_nil))) (pa_cons (pe_call G__law_told (hr.mono (by first | decide | omega)) (by rfl) g__law_told kp__law_told b__law_told .nil pass0 (pa_cons pe_int (pa_cons (pv 17) pa_nil))) pa_nil)))))) (pa_cons (pe_lst (pa_cons pe_bl (pa_cons pe_bl (pa_cons (pv 2) (pa_cons (pv 2) (pa_cons (pv 2) pa_nil)))))) pa_nil))))) (pss_one (ps_ret pe_bl)) pss_nil)))
    (pss_cons (ps_for PassesOwn.never rfl (pi_sq (pe_lst (pa_cons (pv 4) (pa_cons (pe_slice sl_Z (pv 4) po_none (po_some pe_int)) (pa_cons (pe_op op_addZ pe_str (pe_slice sl_Z (pv 4) po_none (po_some pe_int))) (pa_cons pe_non (pa_cons (pe_tup pa_nil) (pa_cons pe_int pa_nil)))))))) (pg_name (i := 17) nd rfl (by first | exact .inl rfl | exact .inr rfl))
      (pss_one (ps_if (pt_not (pt_val (pe_call G__law_same (hr.mono (by first | decide | omega)) (by rfl) g__law_same kp__law_same b__law_same .nil pass0 (pa_cons (pe_call G__law_told (hr.mono (by first | decide | omega)) (by rfl) g__law_told kp__law_told b__law_told .nil pass0 (pa_cons pe_int (pa_cons (pv 17) pa_nil))) (pa_cons (pv 2) pa_nil))))) (pss_one (ps_ret pe_bl)) pss_nil)))
    (pss_one (ps_ret (pe_call G__law_same (hr.mono (by first | decide | omega)) (by rfl) g__law_same kp__law_same b__law_same .nil pass0 (pa_cons (pe_lst (pa_cons (pe_call G0_check_figure (hr.mono (by first | decide | omega)) (by rfl) g0_check_figure kp0_check_figure b0_check_figure .nil pass0 (pa_cons pe_str pa_nil)) (pa_cons (pe_call G0_sum_of (hr.mono (by first | decide | omega)) (by rfl) g0_sum_of kp0_sum_of b0_sum_of .nil pass0 (pa_cons pe_str pa_nil)) (pa_cons (pe_call G0_slips_of (hr.mono (by first | decide | omega)) (by rfl) g0_slips_of kp0_slips_of b0_slips_of .nil pass0 (pa_cons pe_str pa_nil)) pa_nil)))) (pa_cons (pe_lst (pa_cons pe_str (pa_cons pe_int (pa_cons (pe_lst (pa_cons pe_str (pa_cons pe_str pa_nil))) pa_nil)))) pa_nil))))))))))))), fun rs L q x h => ?_⟩
    obtain ⟨ns, rfl, hn, rfl, hq⟩ := h
    refine hs_seq (hs_asg (cp_call (ca_cons (cp_var rfl (ca_nil ⟨ns, rfl, hn, fun p_draws v_draws nin_p_draws => ?_⟩)))))
    have hA : AccR ca (m_law v_draws) (fun r => q (.dat (eB r)) ([] : Led)) fun _ => False := by
      rw [hlaw]
      exact hq
    refine fin1 (ca := ca) (enc := eB) (Lf := fun _ => ([] : Led)) (L := ([] : Led)) (X := fun _ L' => L' = ([] : Led)) (fun _ => Keeps.refl _) hA ?_
    refine (hv_set (e := (eL eB)) (ev_lst (ds := ([true, false, false, false, false] : List Bool).map eB) (ea_cons ev_bl (ea_cons ev_bl (ea_cons ev_bl (ea_cons ev_bl (ea_cons ev_bl ea_nil))))) rfl (szl _ (Nat.le_trans (Nat.le_of_eq (show _ = 5 from rfl)) (by decide)))) fun v_refused => ?_)
    refine (hv_grd fun g72 => ?_)
    refine (hv_bind (fun (s : (List Nat)) ε' L' => match s with | v_draws => ∃ (u3 u4 u5 u6 u7 u8 u9 u10 u12 u13 : Option Rs), ε' = [some (.scr ns), some (.own p_draws), some (.dat ((eL eB) v_refused)), u3, u4, u5, u6, u7, u8, u9, u10, none, u12, u13, none, none, none, none] ∧ (plus ([] : Led) p_draws (v_draws.map natD)) = L') (hv_for (fun (s : (List Nat)) ε' L' => match s with | v_draws => ∃ (u3 u4 u5 u6 u7 u8 u9 u10 u12 u13 : Option Rs), ε' = [some (.scr ns), some (.own p_draws), some (.dat ((eL eB) v_refused)), u3, u4, u5, u6, u7, u8, u9, u10, none, u12, u13, none, none, none, none] ∧ (plus ([] : Led) p_draws (v_draws.map natD)) = L') (xs := (rngI 0 (4 : Int))) (g0 := eI) (f := (fun (x1 : Int) (s : (List Nat)) => match s with | v_draws => (grd ((m__law_number v_draws).isOk = true) (lt (m__law_number v_draws).get.1 fun v_number : Str => (lt (m__law_number v_draws).get.2 fun v_draws : List Nat => (grd ((m__law_is_sound v_number).isOk = true) (lt (m__law_is_sound v_number).get fun v_sound : Bool => (grd (bnd (11 : Int) ∧ (∀ x3 ∈ (rngI 0 (11 : Int)), v_number.length ≤ sizeLine ∧ okIx v_number.cps.toList (x3 + (1 : Int)) ∧ (cutStr v_number none (some x3)).length + (ixS v_number (x3 + (1 : Int))).length ≤ sizeLine ∧ okIx v_number.cps.toList x3 ∧ ((cutStr v_number none (some x3)) ++ (ixS v_number (x3 + (1 : Int)))).length + (ixS v_number x3).length ≤ sizeLine ∧ (((cutStr v_number none (some x3)) ++ (ixS v_number (x3 + (1 : Int)))) ++ (ixS v_number x3)).length + (cutStr v_number (some (x3 + (2 : Int))) none).length ≤ sizeLine) ∧ (rngI 0 (11 : Int)).length < sizeLine) (lt ((rngI 0 (11 : Int)).map fun x3 : Int => ((((cutStr v_number none (some x3)) ++ (ixS v_number (x3 + (1 : Int)))) ++ (ixS v_number x3)) ++ (cutStr v_number (some (x3 + (2 : Int))) none))) fun v_swaps : (List Str) => (lt ((eL eB) v_refused) fun v_slips : PyData => (Ctl.bind (bif v_sound then (grd ((∀ x10 ∈ v_swaps, ((!(x10 == v_number)) = true → (m__law_is_sound x10).isOk = true)) ∧ v_swaps.length < sizeLine ∧ ((v_swaps.filter fun x10 : Str => ((!(x10 == v_number)) && (m__law_is_sound x10).get)).map fun x10 : Str => x10).length + 1 < scanBound) (lt ((eL eS) (usortS ((v_swaps.filter fun x10 : Str => ((!(x10 == v_number)) && (m__law_is_sound x10).get)).map fun x10 : Str => x10))) fun v_slips : PyData => (.nx v_slips))) else (.nx v_slips) : Ctl (PyData) _ _) fun v_slips => (lt ([] : (List Str)) fun v_kin : (List Str) => (grd (bnd (12 : Int)) (Ctl.bind (forC (rngI 0 (12 : Int)) (v_kin : (List Str)) (fun (x19 : Int) (s : (List Str)) => match s with | v_kin => (grd ((∀ x21 ∈ (sgns ("0123456789" : Str)), v_number.length ≤ sizeLine ∧ okIx v_number.cps.toList x19 ∧ ((!(x21 == (ixS v_number x19))) = true → v_number.length ≤ sizeLine ∧ (cutStr v_number none (some x19)).length + x21.length ≤ sizeLine ∧ ((cutStr v_number none (some x19)) ++ x21).length + (cutStr v_number (some (x19 + (1 : Int))) none).length ≤ sizeLine)) ∧ (sgns ("0123456789" : Str)).length < sizeLine ∧ v_kin.length + (((sgns ("0123456789" : Str)).filter fun x21 : Str => (!(x21 == (ixS v_number x19)))).map fun x21 : Str => (((cutStr v_number none (some x19)) ++ x21) ++ (cutStr v_number (some (x19 + (1 : Int))) none))).length ≤ sizeLine) (lt (v_kin ++ (((sgns ("0123456789" : Str)).filter fun x21 : Str => (!(x21 == (ixS v_number x19)))).map fun x21 : Str => (((cutStr v_number none (some x19)) ++ x21) ++ (cutStr v_number (some (x19 + (1 : Int))) none)))) fun v_kin : (List Str) => (.nx v_kin)))) : Ctl ((List Str)) _ _) fun v_kin => (grd (v_number.length ≤ sizeLine ∧ (m__law_check (cutStr v_number none (some (11 : Int)))).isOk = true ∧ (m__law_sum v_number).isOk = true ∧ (∀ x28 ∈ v_kin, (m__law_is_sound x28).isOk = true) ∧ v_kin.length < sizeLine) (lt ([(eS (m__law_check (cutStr v_number none (some (11 : Int)))).get), (eI (m__law_sum v_number).get), v_slips, ((eL eS) (sortS ((v_kin.filter fun x28 : Str => (m__law_is_sound x28).get).map fun x28 : Str => x28)))] : List PyData) fun v_due : (List PyData) => (grd (v_number.length ≤ sizeLine ∧ (m__law_told (0 : Int) (eS (cutStr v_number none (some (11 : Int))))).isOk = true ∧ (∀ x34 ∈ ([(1 : Int), (2 : Int), (3 : Int)] : List Int), (m__law_told x34 (eS v_number)).isOk = true) ∧ ([(1 : Int), (2 : Int), (3 : Int)] : List Int).length < sizeLine ∧ ([(m__law_told (0 : Int) (eS (cutStr v_number none (some (11 : Int))))).get] : List PyData).length + (([(1 : Int), (2 : Int), (3 : Int)] : List Int).map fun x34 : Int => (m__law_told x34 (eS v_number)).get).length ≤ sizeLine) (lt (([(m__law_told (0 : Int) (eS (cutStr v_number none (some (11 : Int))))).get] : List PyData) ++ (([(1 : Int), (2 : Int), (3 : Int)] : List Int).map fun x34 : Int => (m__law_told x34 (eS v_number)).get)) fun v_told : (List PyData) => (grd ((m_is_number (eS v_number)).isOk = true ∧ (m_is_sound (eS v_number)).isOk = true ∧ ([(eB (m_is_number (eS v_number)).get), (eB (m_is_sound (eS v_number)).get)] : List PyData).length + v_told.length ≤ sizeLine ∧ ([(eB true), (eB v_sound)] : List PyData).length + v_due.length ≤ sizeLine ∧ (m__law_same ((eL eD) (([(eB (m_is_number (eS v_number)).get), (eB (m_is_sound (eS v_number)).get)] : List PyData) ++ v_told)) ((eL eD) (([(eB true), (eB v_sound)] : List PyData) ++ v_due))).isOk = true) (bif (!(m__law_same ((eL eD) (([(eB (m_is_number (eS v_number)).get), (eB (m_is_sound (eS v_number)).get)] : List PyData) ++ v_told)) ((eL eD) (([(eB true), (eB v_sound)] : List PyData) ++ v_due))).get) then (.rt false) else (grd (v_swaps ≠ [] ∧ v_kin ≠ []) (Ctl.bind (forC ([(pkV v_draws v_swaps), (pkV (tkD v_draws) v_kin)] : List Str) ((tkD (tkD v_draws)) : (List Nat)) (fun (x41 : Str) (s : (List Nat)) => match s with | v_draws => (grd ((m_is_number (eS x41)).isOk = true ∧ (m_is_sound (eS x41)).isOk = true ∧ (m__law_told (1 : Int) (eS x41)).isOk = true ∧ (m__law_is_sound x41).isOk = true ∧ (m__law_sum x41).isOk = true ∧ (m__law_same ((eL eD) ([(eB (m_is_number (eS x41)).get), (eB (m_is_sound (eS x41)).get), (m__law_told (1 : Int) (eS x41)).get] : List PyData)) ((eL eD) ([(eB true), (eB (m__law_is_sound x41).get), (eI (m__law_sum x41).get)] : List PyData))).isOk = true) (bif (!(m__law_same ((eL eD) ([(eB (m_is_number (eS x41)).get), (eB (m_is_sound (eS x41)).get), (m__law_told (1 : Int) (eS x41)).get] : List PyData)) ((eL eD) ([(eB true), (eB (m__law_is_sound x41).get), (eI (m__law_sum x41).get)] : List PyData))).get) then (.rt false) else (.nx v_draws)))) : Ctl ((List Nat)) _ _) fun v_draws => (.nx v_draws))))))))))))))))))))))) (ei_range1 ev_int g72) ⟨_, _, _, _, _, _, _, _, _, _, rfl, rfl⟩ ?_) ?_)
    · rintro x1 v_draws _ _ ⟨u3, u4, u5, u6, u7, u8, u9, u10, u12, u13, rfl, rfl⟩
      refine ⟨_, eg_name, ?_⟩
      refine (hv_grd fun g54 => ?_)
      refine (hv_set (e := eS) (ev_callU (L2 := (plus ([] : Led) p_draws ((m__law_number v_draws).get.2.map natD))) (ea_cons (ev_var rfl) ea_nil) (by rw [up_plus (nin_of nin_p_draws (by simp [plus, plusM, Led.ks]))]) fun _ q => ⟨v_draws, p_draws, rfl, plus_mem, accR_ok g54 q⟩) fun v_number => ?_)
      refine (hv_ltL (Lf := fun v_draws : List Nat => (plus ([] : Led) p_draws (v_draws.map natD))) fun v_draws => ?_)
      refine (hv_grd fun g53 => ?_)
      refine (hv_set (e := eB) (ev_call (ea_cons (ev_var rfl) ea_nil) fun _ q => ⟨v_number, rfl, accR_ok g53 q⟩) fun v_sound => ?_)
      refine (hv_grd fun g52 => ?_)
      refine (hv_set (e := (eL eS)) (ev_lcA (e := eS) (ei_range1 ev_int g52.1) g52.2.2 (fun x3 m4 a6 p5 n7 => ⟨_, eg_name, (ev_op (ev_op (ev_op (ev_sl (ev_var rfl) eo_none (eo_some (ev_var rfl)) fun _ q => sd_strE (g52.2.1 x3 m4).1 q) (ev_op (ev_var rfl) (ev_op (ev_var rfl) ev_int fun _ q => od_add_int q) fun _ q => od_ixS (g52.2.1 x3 m4).1 (g52.2.1 x3 m4).2.1 q) fun _ q => od_add_str (g52.2.1 x3 m4).2.2.1 q) (ev_op (ev_var rfl) (ev_var rfl) fun _ q => od_ixS (g52.2.1 x3 m4).1 (g52.2.1 x3 m4).2.2.2.1 q) fun _ q => od_add_str (g52.2.1 x3 m4).2.2.2.2.1 q) (ev_sl (ev_var rfl) (eo_some (ev_op (ev_var rfl) ev_int fun _ q => od_add_int q)) eo_none fun _ q => sd_strE (g52.2.1 x3 m4).1 q) fun _ q => od_add_str (g52.2.1 x3 m4).2.2.2.2.2 q)⟩) gown_name) fun v_swaps => ?_)
      refine (hv_set (e := eD) (ev_var rfl) fun v_slips => ?_)
      refine (hv_bind (fun (s : PyData) ε' L' => match s with | v_slips => ε' = [some (.scr ns), some (.own p_draws), some (.dat ((eL eB) v_refused)), some (.dat (eI x1)), some (.dat (eS v_number)), some (.dat (eB v_sound)), some (.dat ((eL eS) v_swaps)), u7, some (.dat (eD v_slips)), u9, u10, none, u12, u13, none, none, none, none] ∧ (plus ([] : Led) p_draws (v_draws.map natD)) = L') (hv_ifL (et_b (ev_var rfl)) (fun h8 => ?_) fun h8 => ?_) ?_)
      · refine (hv_grd fun g17 => ?_)
        refine (hv_one ?_)
        refine (hv_set (e := eD) (ev_sortSetS (ev_lc (e := eS) (ei_sq (ev_var rfl) seqL) g17.2.1 (fun x10 m11 a13 p12 n14 => ⟨_, eg_name, (et_and (et_test (ev_op (ev_var rfl) (ev_var rfl) fun _ q => od_ne_str q)) fun h15 => (et_b (ev_call (ea_cons (ev_var rfl) ea_nil) fun _ q => ⟨x10, rfl, accR_ok ((g17.1 x10 m11) h15) q⟩))), fun h16 => (ev_var rfl)⟩) gown_name) (.inl rfl) g17.2.2) fun v_slips => ?_)
        exact (hv_nx ⟨rfl, rfl⟩)
      · exact (hv_nx ⟨rfl, rfl⟩)
      · rintro v_slips _ _ ⟨rfl, rfl⟩
        refine (hv_set (e := (eL eS)) (ev_lst ea_nil (ds := []) rfl (szl _ (by decide))) fun v_kin => ?_)
        refine (hv_grd fun g51 => ?_)
        refine (hv_bind (fun (s : (List Str)) ε' L' => match s with | v_kin => ∃ (u7 : Option Rs), ε' = [some (.scr ns), some (.own p_draws), some (.dat ((eL eB) v_refused)), some (.dat (eI x1)), some (.dat (eS v_number)), some (.dat (eB v_sound)), some (.dat ((eL eS) v_swaps)), u7, some (.dat (eD v_slips)), u9, some (.dat ((eL eS) v_kin)), none, u12, u13, none, none, none, none] ∧ (plus ([] : Led) p_draws (v_draws.map natD)) = L') (hv_for (fun (s : (List Str)) ε' L' => match s with | v_kin => ∃ (u7 : Option Rs), ε' = [some (.scr ns), some (.own p_draws), some (.dat ((eL eB) v_refused)), some (.dat (eI x1)), some (.dat (eS v_number)), some (.dat (eB v_sound)), some (.dat ((eL eS) v_swaps)), u7, some (.dat (eD v_slips)), u9, some (.dat ((eL eS) v_kin)), none, u12, u13, none, none, none, none] ∧ (plus ([] : Led) p_draws (v_draws.map natD)) = L') (xs := (rngI 0 (12 : Int))) (g0 := eI) (f := (fun (x19 : Int) (s : (List Str)) => match s with | v_kin => (grd ((∀ x21 ∈ (sgns ("0123456789" : Str)), v_number.length ≤ sizeLine ∧ okIx v_number.cps.toList x19 ∧ ((!(x21 == (ixS v_number x19))) = true → v_number.length ≤ sizeLine ∧ (cutStr v_number none (some x19)).length + x21.length ≤ sizeLine ∧ ((cutStr v_number none (some x19)) ++ x21).length + (cutStr v_number (some (x19 + (1 : Int))) none).length ≤ sizeLine)) ∧ (sgns ("0123456789" : Str)).length < sizeLine ∧ v_kin.length + (((sgns ("0123456789" : Str)).filter fun x21 : Str => (!(x21 == (ixS v_number x19)))).map fun x21 : Str => (((cutStr v_number none (some x19)) ++ x21) ++ (cutStr v_number (some (x19 + (1 : Int))) none))).length ≤ sizeLine) (lt (v_kin ++ (((sgns ("0123456789" : Str)).filter fun x21 : Str => (!(x21 == (ixS v_number x19)))).map fun x21 : Str => (((cutStr v_number none (some x19)) ++ x21) ++ (cutStr v_number (some (x19 + (1 : Int))) none)))) fun v_kin : (List Str) => (.nx v_kin))))) (ei_range1 ev_int g51) ⟨_, rfl, rfl⟩ ?_) ?_)
        · rintro x19 v_kin _ _ ⟨u7, rfl, rfl⟩
          refine ⟨_, eg_name, ?_⟩
          refine (hv_grd fun g27 => ?_)
          refine (hv_one ?_)
          refine (hv_set (e := (eL eS)) (ev_op (ev_var rfl) (ev_lc (e := eS) (ei_sq ev_str seqS) g27.2.1 (fun x21 m22 a24 p23 n25 => ⟨_, eg_name, (et_test (ev_op (ev_var rfl) (ev_op (ev_var rfl) (ev_var rfl) fun _ q => od_ixS (g27.1 x21 m22).1 (g27.1 x21 m22).2.1 q) fun _ q => od_ne_str q)), fun h26 => (ev_op (ev_op (ev_sl (ev_var rfl) eo_none (eo_some (ev_var rfl)) fun _ q => sd_strE ((g27.1 x21 m22).2.2 h26).1 q) (ev_var rfl) fun _ q => od_add_str ((g27.1 x21 m22).2.2 h26).2.1 q) (ev_sl (ev_var rfl) (eo_some (ev_op (ev_var rfl) ev_int fun _ q => od_add_int q)) eo_none fun _ q => sd_strE ((g27.1 x21 m22).2.2 h26).1 q) fun _ q => od_add_str ((g27.1 x21 m22).2.2 h26).2.2 q)⟩) gown_name) fun _ q => od_addL g27.2.2 q) fun v_kin => ?_)
          exact (hv_nx ⟨_, rfl, rfl⟩)
        · rintro v_kin _ _ ⟨u7, rfl, rfl⟩
          refine (hv_grd fun g50 => ?_)
          refine (hv_set (e := (eL eD)) (ev_lst (ds := ([(eS (m__law_check (cutStr v_number none (some (11 : Int)))).get), (eI (m__law_sum v_number).get), v_slips, ((eL eS) (sortS ((v_kin.filter fun x28 : Str => (m__law_is_sound x28).get).map fun x28 : Str => x28)))] : List PyData).map eD) (ea_cons (ev_call (ea_cons (ev_sl (ev_var rfl) eo_none (eo_some ev_int) fun _ q => sd_strE g50.1 q) ea_nil) fun _ q => ⟨(cutStr v_number none (some (11 : Int))), rfl, accR_ok g50.2.1 q⟩) (ea_cons (ev_call (ea_cons (ev_var rfl) ea_nil) fun _ q => ⟨v_number, rfl, accR_ok g50.2.2.1 q⟩) (ea_cons (ev_var rfl) (ea_cons (ev_cb (ea_cons (ev_lc (e := eS) (ei_sq (ev_var rfl) seqL) g50.2.2.2.2 (fun x28 m29 a31 p30 n32 => ⟨_, eg_name, (et_b (ev_call (ea_cons (ev_var rfl) ea_nil) fun _ q => ⟨x28, rfl, accR_ok (g50.2.2.2.1 x28 m29) q⟩)), fun h33 => (ev_var rfl)⟩) gown_name) ea_nil) fun _ q => cd_sortYS q) ea_nil)))) rfl (szl _ (Nat.le_trans (Nat.le_of_eq (show _ = 4 from rfl)) (by decide)))) fun v_due => ?_)
          refine (hv_grd fun g49 => ?_)
          refine (hv_set (e := (eL eD)) (ev_op (ev_lst (ds := ([(m__law_told (0 : Int) (eS (cutStr v_number none (some (11 : Int))))).get] : List PyData).map eD) (ea_cons (ev_call (ea_cons ev_int (ea_cons (ev_sl (ev_var rfl) eo_none (eo_some ev_int) fun _ q => sd_strE g49.1 q) ea_nil)) fun _ q => ⟨(0 : Int), (eS (cutStr v_number none (some (11 : Int)))), rfl, accR_ok g49.2.1 q⟩) ea_nil) rfl (szl _ (Nat.le_trans (Nat.le_of_eq (show _ = 1 from rfl)) (by decide)))) (ev_lcA (e := eD) (ei_sq (ev_lst (ds := ([(1 : Int), (2 : Int), (3 : Int)] : List Int).map eI) (ea_cons ev_int (ea_cons ev_int (ea_cons ev_int ea_nil))) rfl (szl _ (Nat.le_trans (Nat.le_of_eq (show _ = 3 from rfl)) (by decide)))) seqL) g49.2.2.2.1 (fun x34 m35 a37 p36 n38 => ⟨_, eg_name, (ev_call (ea_cons (ev_var rfl) (ea_cons (ev_var rfl) ea_nil)) fun _ q => ⟨x34, (eS v_number), rfl, accR_ok (g49.2.2.1 x34 m35) q⟩)⟩) gown_name) fun _ q => od_addL g49.2.2.2.2 q) fun v_told => ?_)
          refine (hv_grd fun g48 => ?_)
          refine (hv_if1 (et_not (et_b (ev_call (ea_cons (ev_op (ev_lst (ds := ([(eB (m_is_number (eS v_number)).get), (eB (m_is_sound (eS v_number)).get)] : List PyData).map eD) (ea_cons (ev_call (ea_cons (ev_var rfl) ea_nil) fun _ q => ⟨(eS v_number), rfl, accR_ok g48.1 q⟩) (ea_cons (ev_call (ea_cons (ev_var rfl) ea_nil) fun _ q => ⟨(eS v_number), rfl, accR_ok g48.2.1 q⟩) ea_nil)) rfl (szl _ (Nat.le_trans (Nat.le_of_eq (show _ = 2 from rfl)) (by decide)))) (ev_var rfl) fun _ q => od_addL g48.2.2.1 q) (ea_cons (ev_op (ev_lst (ds := ([(eB true), (eB v_sound)] : List PyData).map eD) (ea_cons ev_bl (ea_cons (ev_var rfl) ea_nil)) rfl (szl _ (Nat.le_trans (Nat.le_of_eq (show _ = 2 from rfl)) (by decide)))) (ev_var rfl) fun _ q => od_addL g48.2.2.2.1 q) ea_nil)) fun _ q => ⟨((eL eD) (([(eB (m_is_number (eS v_number)).get), (eB (m_is_sound (eS v_number)).get)] : List PyData) ++ v_told)), ((eL eD) (([(eB true), (eB v_sound)] : List PyData) ++ v_due)), rfl, accR_ok g48.2.2.2.2 q⟩))) (fun h39 => ?_) fun h39 => ?_)
          · exact (hv_ret (v := false) ev_bl (rf_dat (enc := eB) (Lf := fun _ => ([] : Led)) (r := false) rfl (wk_of_sub (List.Sublist.trans (List.Sublist.refl _) (List.sublist_append_left _ _)))))
          · refine (hv_grd fun g47 => ?_)
            refine (hv_one ?_)
            refine (hv_bind (fun (s : (List Nat)) ε' L' => match s with | v_draws => ∃ (u9 : Option Rs), ε' = [some (.scr ns), some (.own p_draws), some (.dat ((eL eB) v_refused)), some (.dat (eI x1)), some (.dat (eS v_number)), some (.dat (eB v_sound)), some (.dat ((eL eS) v_swaps)), u7, some (.dat (eD v_slips)), u9, some (.dat ((eL eS) v_kin)), none, some (.dat ((eL eD) v_due)), some (.dat ((eL eD) v_told)), none, none, none, none] ∧ (plus ([] : Led) p_draws (v_draws.map natD)) = L') (hv_for (fun (s : (List Nat)) ε' L' => match s with | v_draws => ∃ (u9 : Option Rs), ε' = [some (.scr ns), some (.own p_draws), some (.dat ((eL eB) v_refused)), some (.dat (eI x1)), some (.dat (eS v_number)), some (.dat (eB v_sound)), some (.dat ((eL eS) v_swaps)), u7, some (.dat (eD v_slips)), u9, some (.dat ((eL eS) v_kin)), none, some (.dat ((eL eD) v_due)), some (.dat ((eL eD) v_told)), none, none, none, none] ∧ (plus ([] : Led) p_draws (v_draws.map natD)) = L') (xs := ([(pkV v_draws v_swaps), (pkV (tkD v_draws) v_kin)] : List Str)) (g0 := eS) (f := (fun (x41 : Str) (s : (List Nat)) => match s with | v_draws => (grd ((m_is_number (eS x41)).isOk = true ∧ (m_is_sound (eS x41)).isOk = true ∧ (m__law_told (1 : Int) (eS x41)).isOk = true ∧ (m__law_is_sound x41).isOk = true ∧ (m__law_sum x41).isOk = true ∧ (m__law_same ((eL eD) ([(eB (m_is_number (eS x41)).get), (eB (m_is_sound (eS x41)).get), (m__law_told (1 : Int) (eS x41)).get] : List PyData)) ((eL eD) ([(eB true), (eB (m__law_is_sound x41).get), (eI (m__law_sum x41).get)] : List PyData))).isOk = true) (bif (!(m__law_same ((eL eD) ([(eB (m_is_number (eS x41)).get), (eB (m_is_sound (eS x41)).get), (m__law_told (1 : Int) (eS x41)).get] : List PyData)) ((eL eD) ([(eB true), (eB (m__law_is_sound x41).get), (eI (m__law_sum x41).get)] : List PyData))).get) then (.rt false) else (.nx v_draws))))) (ei_sq (ev_lst (ds := ([(pkV v_draws v_swaps), (pkV (tkD v_draws) v_kin)] : List Str).map eS) (ea_cons (ev_pickL (e := eS) (L2 := (plus ([] : Led) p_draws ((tkD v_draws).map natD))) rfl (ev_var rfl) plus_mem g47.1 (by rw [up_plus (nin_of nin_p_draws (by simp [plus, plusM, Led.ks]))])) (ea_cons (ev_pickL (e := eS) (L2 := (plus ([] : Led) p_draws ((tkD (tkD v_draws)).map natD))) rfl (ev_var rfl) plus_mem g47.2 (by rw [up_plus (nin_of nin_p_draws (by simp [plus, plusM, Led.ks]))])) ea_nil)) rfl (szl _ (Nat.le_trans (Nat.le_of_eq (show _ = 2 from rfl)) (by decide)))) seqL) ⟨_, rfl, rfl⟩ ?_) ?_)
            · rintro x41 v_draws _ _ ⟨u9, rfl, rfl⟩
              refine ⟨_, eg_name, ?_⟩
              refine (hv_grd fun g46 => ?_)
              refine (hv_ifL (et_not (et_b (ev_call (ea_cons (ev_lst (ds := ([(eB (m_is_number (eS x41)).get), (eB (m_is_sound (eS x41)).get), (m__law_told (1 : Int) (eS x41)).get] : List PyData).map eD) (ea_cons (ev_call (ea_cons (ev_var rfl) ea_nil) fun _ q => ⟨(eS x41), rfl, accR_ok g46.1 q⟩) (ea_cons (ev_call (ea_cons (ev_var rfl) ea_nil) fun _ q => ⟨(eS x41), rfl, accR_ok g46.2.1 q⟩) (ea_cons (ev_call (ea_cons ev_int (ea_cons (ev_var rfl) ea_nil)) fun _ q => ⟨(1 : Int), (eS x41), rfl, accR_ok g46.2.2.1 q⟩) ea_nil))) rfl (szl _ (Nat.le_trans (Nat.le_of_eq (show _ = 3 from rfl)) (by decide)))) (ea_cons (ev_lst (ds := ([(eB true), (eB (m__law_is_sound x41).get), (eI (m__law_sum x41).get)] : List PyData).map eD) (ea_cons ev_bl (ea_cons (ev_call (ea_cons (ev_var rfl) ea_nil) fun _ q => ⟨x41, rfl, accR_ok g46.2.2.2.1 q⟩) (ea_cons (ev_call (ea_cons (ev_var rfl) ea_nil) fun _ q => ⟨x41, rfl, accR_ok g46.2.2.2.2.1 q⟩) ea_nil))) rfl (szl _ (Nat.le_trans (Nat.le_of_eq (show _ = 3 from rfl)) (by decide)))) ea_nil)) fun _ q => ⟨((eL eD) ([(eB (m_is_number (eS x41)).get), (eB (m_is_sound (eS x41)).get), (m__law_told (1 : Int) (eS x41)).get] : List PyData)), ((eL eD) ([(eB true), (eB (m__law_is_sound x41).get), (eI (m__law_sum x41).get)] : List PyData)), rfl, accR_ok g46.2.2.2.2.2 q⟩))) (fun h43 => ?_) fun h43 => ?_)
              · exact (hv_ret (v := false) ev_bl (rf_dat (enc := eB) (Lf := fun _ => ([] : Led)) (r := false) rfl (wk_of_sub (List.Sublist.trans (List.Sublist.refl _) (List.sublist_append_left _ _)))))
              · exact (hv_nx ⟨_, rfl, rfl⟩)
            · rintro v_draws _ _ ⟨u9, rfl, rfl⟩
              exact (hv_nx ⟨_, _, _, _, _, _, _, _, _, _, rfl, rfl⟩)
    · rintro v_draws _ _ ⟨u3, u4, u5, u6, u7, u8, u9, u10, u12, u13, rfl, rfl⟩
      refine (hv_grd fun g71 => ?_)
      refine (hv_set (e := eS) (ev_callU (L2 := (plus ([] : Led) p_draws ((m__law_number v_draws).get.2.map natD))) (ea_cons (ev_var rfl) ea_nil) (by rw [up_plus (nin_of nin_p_draws (by simp [plus, plusM, Led.ks]))]) fun _ q => ⟨v_draws, p_draws, rfl, plus_mem, accR_ok g71 q⟩) fun v_number => ?_)
      refine (hv_ltL (Lf := fun v_draws : List Nat => (plus ([] : Led) p_draws (v_draws.map natD))) fun v_draws => ?_)
      refine (hv_set (e := eI) (ev_take (L2 := (plus ([] : Led) p_draws ((tkD v_draws).map natD))) rfl ev_int plus_mem (by decide) (by rw [up_plus (nin_of nin_p_draws (by simp [plus, plusM, Led.ks]))])) fun v_at => ?_)
      refine (hv_ltL (Lf := fun v_draws : List Nat => (plus ([] : Led) p_draws (v_draws.map natD))) fun v_draws => ?_)
      refine (hv_grd fun g70 => ?_)
      refine (hv_set (e := eS) (ev_op (ev_op (ev_sl (ev_var rfl) eo_none (eo_some (ev_var rfl)) fun _ q => sd_strE g70.1 q) (ev_pickL (e := eS) (L2 := (plus ([] : Led) p_draws ((tkD v_draws).map natD))) rfl (ev_lst (ds := ([("a" : Str), (" " : Str), ("?" : Str), ("-" : Str), ("." : Str)] : List Str).map eS) (ea_cons ev_str (ea_cons ev_str (ea_cons ev_str (ea_cons ev_str (ea_cons ev_str ea_nil))))) rfl (szl _ (Nat.le_trans (Nat.le_of_eq (show _ = 5 from rfl)) (by decide)))) plus_mem g70.2.1 (by rw [up_plus (nin_of nin_p_draws (by simp [plus, plusM, Led.ks]))])) fun _ q => od_add_str g70.2.2.1 q) (ev_sl (ev_var rfl) (eo_some (ev_op (ev_var rfl) ev_int fun _ q => od_add_int q)) eo_none fun _ q => sd_strE g70.1 q) fun _ q => od_add_str g70.2.2.2 q) fun v_bent => ?_)
      refine (hv_ltL (Lf := fun v_draws : List Nat => (plus ([] : Led) p_draws (v_draws.map natD))) fun v_draws => ?_)
      refine (hv_grd fun g69 => ?_)
      refine (hv_bind (fun (s : Unit) ε' L' => match s with | _ => ∃ (u17 : Option Rs), ε' = [some (.scr ns), some (.own p_draws), some (.dat ((eL eB) v_refused)), u3, some (.dat (eS v_number)), u5, u6, u7, u8, u9, u10, none, u12, u13, none, some (.dat (eI v_at)), some (.dat (eS v_bent)), u17] ∧ (plus ([] : Led) p_draws (v_draws.map natD)) = L') (hv_for (fun (s : Unit) ε' L' => match s with | _ => ∃ (u17 : Option Rs), ε' = [some (.scr ns), some (.own p_draws), some (.dat ((eL eB) v_refused)), u3, some (.dat (eS v_number)), u5, u6, u7, u8, u9, u10, none, u12, u13, none, some (.dat (eI v_at)), some (.dat (eS v_bent)), u17] ∧ (plus ([] : Led) p_draws (v_draws.map natD)) = L') (xs := ([(eS (cutStr v_number none (some (11 : Int)))), (eS (v_number ++ ("0" : Str))), (eS v_bent), (eS ("" : Str)), (eN ()), (eI (intS v_number)), (eB true), ((eT eS) ([v_number] : List Str)), ((eL eS) ([v_number] : List Str)), (eS ((cutStr v_number none (some v_at)) ++ (cutStr v_number (some (v_at + (1 : Int))) none)))] : List PyData)) (g0 := eD) (f := (fun (x55 : PyData) (s : Unit) => match s with | _ => (grd ((m_is_number x55).isOk = true ∧ (m_is_sound x55).isOk = true ∧ (m__law_told (1 : Int) x55).isOk = true ∧ (m__law_told (2 : Int) x55).isOk = true ∧ (m__law_told (3 : Int) x55).isOk = true ∧ (m__law_same ((eL eD) ([(eB (m_is_number x55).get), (eB (m_is_sound x55).get), (m__law_told (1 : Int) x55).get, (m__law_told (2 : Int) x55).get, (m__law_told (3 : Int) x55).get] : List PyData)) ((eL eD) ([(eB false), (eB false), ((eL eB) v_refused), ((eL eB) v_refused), ((eL eB) v_refused)] : List PyData))).isOk = true) (bif (!(m__law_same ((eL eD) ([(eB (m_is_number x55).get), (eB (m_is_sound x55).get), (m__law_told (1 : Int) x55).get, (m__law_told (2 : Int) x55).get, (m__law_told (3 : Int) x55).get] : List PyData)) ((eL eD) ([(eB false), (eB false), ((eL eB) v_refused), ((eL eB) v_refused), ((eL eB) v_refused)] : List PyData))).get) then (.rt false) else (.nx ()))))) (ei_sq (ev_lst (ds := ([(eS (cutStr v_number none (some (11 : Int)))), (eS (v_number ++ ("0" : Str))), (eS v_bent), (eS ("" : Str)), (eN ()), (eI (intS v_number)), (eB true), ((eT eS) ([v_number] : List Str)), ((eL eS) ([v_number] : List Str)), (eS ((cutStr v_number none (some v_at)) ++ (cutStr v_number (some (v_at + (1 : Int))) none)))] : List PyData).map eD) (ea_cons (ev_sl (ev_var rfl) eo_none (eo_some ev_int) fun _ q => sd_strE g69.1 q) (ea_cons (ev_op (ev_var rfl) ev_str fun _ q => od_add_str g69.2.1 q) (ea_cons (ev_var rfl) (ea_cons ev_str (ea_cons ev_non (ea_cons (ev_cb (ea_cons (ev_var rfl) ea_nil) fun _ q => cd_intS g69.2.2.1 q) (ea_cons ev_bl (ea_cons (ev_tup (ds := ([v_number] : List Str).map eS) (ea_cons (ev_var rfl) ea_nil) rfl (szl _ (Nat.le_trans (Nat.le_of_eq (show _ = 1 from rfl)) (by decide)))) (ea_cons (ev_lst (ds := ([v_number] : List Str).map eS) (ea_cons (ev_var rfl) ea_nil) rfl (szl _ (Nat.le_trans (Nat.le_of_eq (show _ = 1 from rfl)) (by decide)))) (ea_cons (ev_op (ev_sl (ev_var rfl) eo_none (eo_some (ev_var rfl)) fun _ q => sd_strE g69.1 q) (ev_sl (ev_var rfl) (eo_some (ev_op (ev_var rfl) ev_int fun _ q => od_add_int q)) eo_none fun _ q => sd_strE g69.1 q) fun _ q => od_add_str g69.2.2.2 q) ea_nil)))))))))) rfl (szl _ (Nat.le_trans (Nat.le_of_eq (show _ = 10 from rfl)) (by decide)))) seqL) ⟨_, rfl, rfl⟩ ?_) ?_)
      · rintro x55 _ _ _ ⟨u17, rfl, rfl⟩
        refine ⟨_, eg_name, ?_⟩
        refine (hv_grd fun g60 => ?_)
        refine (hv_ifL (et_not (et_b (ev_call (ea_cons (ev_lst (ds := ([(eB (m_is_number x55).get), (eB (m_is_sound x55).get), (m__law_told (1 : Int) x55).get, (m__law_told (2 : Int) x55).get, (m__law_told (3 : Int) x55).get] : List PyData).map eD) (ea_cons (ev_call (ea_cons (ev_var rfl) ea_nil) fun _ q => ⟨x55, rfl, accR_ok g60.1 q⟩) (ea_cons (ev_call (ea_cons (ev_var rfl) ea_nil) fun _ q => ⟨x55, rfl, accR_ok g60.2.1 q⟩) (ea_cons (ev_call (ea_cons ev_int (ea_cons (ev_var rfl) ea_nil)) fun _ q => ⟨(1 : Int), x55, rfl, accR_ok g60.2.2.1 q⟩) (ea_cons (ev_call (ea_cons ev_int (ea_cons (ev_var rfl) ea_nil)) fun _ q => ⟨(2 : Int), x55, rfl, accR_ok g60.2.2.2.1 q⟩) (ea_cons (ev_call (ea_cons ev_int (ea_cons (ev_var rfl) ea_nil)) fun _ q => ⟨(3 : Int), x55, rfl, accR_ok g60.2.2.2.2.1 q⟩) ea_nil))))) rfl (szl _ (Nat.le_trans (Nat.le_of_eq (show _ = 5 from rfl)) (by decide)))) (ea_cons (ev_lst (ds := ([(eB false), (eB false), ((eL eB) v_refused), ((eL eB) v_refused), ((eL eB) v_refused)] : List PyData).map eD) (ea_cons ev_bl (ea_cons ev_bl (ea_cons (ev_var rfl) (ea_cons (ev_var rfl) (ea_cons (ev_var rfl) ea_nil))))) rfl (szl _ (Nat.le_trans (Nat.le_of_eq (show _ = 5 from rfl)) (by decide)))) ea_nil)) fun _ q => ⟨((eL eD) ([(eB (m_is_number x55).get), (eB (m_is_sound x55).get), (m__law_told (1 : Int) x55).get, (m__law_told (2 : Int) x55).get, (m__law_told (3 : Int) x55).get] : List PyData)), ((eL eD) ([(eB false), (eB false), ((eL eB) v_refused), ((eL eB) v_refused), ((eL eB) v_refused)] : List PyData)), rfl, accR_ok g60.2.2.2.2.2 q⟩))) (fun h57 => ?_) fun h57 => ?_)
        · exact (hv_ret (v := false) ev_bl (rf_dat (enc := eB) (Lf := fun _ => ([] : Led)) (r := false) rfl (wk_of_sub (List.Sublist.trans (List.Sublist.refl _) (List.sublist_append_left _ _)))))
        · exact (hv_nx ⟨_, rfl, rfl⟩)
      · rintro _ _ _ ⟨u17, rfl, rfl⟩
        refine (hv_grd fun g68 => ?_)
        refine (hv_bind (fun (s : Unit) ε' L' => match s with | _ => ∃ (u17 : Option Rs), ε' = [some (.scr ns), some (.own p_draws), some (.dat ((eL eB) v_refused)), u3, some (.dat (eS v_number)), u5, u6, u7, u8, u9, u10, none, u12, u13, none, some (.dat (eI v_at)), some (.dat (eS v_bent)), u17] ∧ (plus ([] : Led) p_draws (v_draws.map natD)) = L') (hv_for (fun (s : Unit) ε' L' => match s with | _ => ∃ (u17 : Option Rs), ε' = [some (.scr ns), some (.own p_draws), some (.dat ((eL eB) v_refused)), u3, some (.dat (eS v_number)), u5, u6, u7, u8, u9, u10, none, u12, u13, none, some (.dat (eI v_at)), some (.dat (eS v_bent)), u17] ∧ (plus ([] : Led) p_draws (v_draws.map natD)) = L') (xs := ([(eS v_number), (eS (cutStr v_number none (some (10 : Int)))), (eS (("a" : Str) ++ (cutStr v_number none (some (10 : Int))))), (eN ()), (.tuple [] : PyData), (eI (31812643017 : Int))] : List PyData)) (g0 := eD) (f := (fun (x61 : PyData) (s : Unit) => match s with | _ => (grd ((m__law_told (0 : Int) x61).isOk = true ∧ (m__law_same (m__law_told (0 : Int) x61).get ((eL eB) v_refused)).isOk = true) (bif (!(m__law_same (m__law_told (0 : Int) x61).get ((eL eB) v_refused)).get) then (.rt false) else (.nx ()))))) (ei_sq (ev_lst (ds := ([(eS v_number), (eS (cutStr v_number none (some (10 : Int)))), (eS (("a" : Str) ++ (cutStr v_number none (some (10 : Int))))), (eN ()), (.tuple [] : PyData), (eI (31812643017 : Int))] : List PyData).map eD) (ea_cons (ev_var rfl) (ea_cons (ev_sl (ev_var rfl) eo_none (eo_some ev_int) fun _ q => sd_strE g68.1 q) (ea_cons (ev_op ev_str (ev_sl (ev_var rfl) eo_none (eo_some ev_int) fun _ q => sd_strE g68.1 q) fun _ q => od_add_str g68.2 q) (ea_cons ev_non (ea_cons (ev_tup ea_nil (ds := []) rfl (szl _ (by decide))) (ea_cons ev_int ea_nil)))))) rfl (szl _ (Nat.le_trans (Nat.le_of_eq (show _ = 6 from rfl)) (by decide)))) seqL) ⟨_, rfl, rfl⟩ ?_) ?_)
        · rintro x61 _ _ _ ⟨u17, rfl, rfl⟩
          refine ⟨_, eg_name, ?_⟩
          refine (hv_grd fun g66 => ?_)
          refine (hv_ifL (et_not (et_b (ev_call (ea_cons (ev_call (ea_cons ev_int (ea_cons (ev_var rfl) ea_nil)) fun _ q => ⟨(0 : Int), x61, rfl, accR_ok g66.1 q⟩) (ea_cons (ev_var rfl) ea_nil)) fun _ q => ⟨(m__law_told (0 : Int) x61).get, ((eL eB) v_refused), rfl, accR_ok g66.2 q⟩))) (fun h63 => ?_) fun h63 => ?_)
          · exact (hv_ret (v := false) ev_bl (rf_dat (enc := eB) (Lf := fun _ => ([] : Led)) (r := false) rfl (wk_of_sub (List.Sublist.trans (List.Sublist.refl _) (List.sublist_append_left _ _)))))
          · exact (hv_nx ⟨_, rfl, rfl⟩)
        · rintro _ _ _ ⟨u17, rfl, rfl⟩
          refine (hv_grd fun g67 => ?_)
          exact (hv_ret (v := (m__law_same ((eL eD) ([(eS (m_check_figure (eS ("31812643017" : Str))).get), (eI (m_sum_of (eS ("318126430178" : Str))).get), ((eL eS) (m_slips_of (eS ("090000000001" : Str))).get)] : List PyData)) ((eL eD) ([(eS ("8" : Str)), (eI (50 : Int)), ((eL eS) ([("009000000001" : Str), ("900000000001" : Str)] : List Str))] : List PyData))).get) (ev_call (ea_cons (ev_lst (ds := ([(eS (m_check_figure (eS ("31812643017" : Str))).get), (eI (m_sum_of (eS ("318126430178" : Str))).get), ((eL eS) (m_slips_of (eS ("090000000001" : Str))).get)] : List PyData).map eD) (ea_cons (ev_call (ea_cons ev_str ea_nil) fun _ q => ⟨(eS ("31812643017" : Str)), rfl, accR_ok g67.1 q⟩) (ea_cons (ev_call (ea_cons ev_str ea_nil) fun _ q => ⟨(eS ("318126430178" : Str)), rfl, accR_ok g67.2.1 q⟩) (ea_cons (ev_call (ea_cons ev_str ea_nil) fun _ q => ⟨(eS ("090000000001" : Str)), rfl, accR_ok g67.2.2.1 q⟩) ea_nil))) rfl (szl _ (Nat.le_trans (Nat.le_of_eq (show _ = 3 from rfl)) (by decide)))) (ea_cons (ev_lst (ds := ([(eS ("8" : Str)), (eI (50 : Int)), ((eL eS) ([("009000000001" : Str), ("900000000001" : Str)] : List Str))] : List PyData).map eD) (ea_cons ev_str (ea_cons ev_int (ea_cons (ev_lst (ds := ([("009000000001" : Str), ("900000000001" : Str)] : List Str).map eS) (ea_cons ev_str (ea_cons ev_str ea_nil)) rfl (szl _ (Nat.le_trans (Nat.le_of_eq (show _ = 2 from rfl)) (by decide)))) ea_nil))) rfl (szl _ (Nat.le_trans (Nat.le_of_eq (show _ = 3 from rfl)) (by decide)))) ea_nil)) fun _ q => ⟨((eL eD) ([(eS (m_check_figure (eS ("31812643017" : Str))).get), (eI (m_sum_of (eS ("318126430178" : Str))).get), ((eL eS) (m_slips_of (eS ("090000000001" : Str))).get)] : List PyData)), ((eL eD) ([(eS ("8" : Str)), (eI (50 : Int)), ((eL eS) ([("009000000001" : Str), ("900000000001" : Str)] : List Str))] : List PyData)), rfl, accR_ok g67.2.2.2 q⟩) (rf_dat (enc := eB) (Lf := fun _ => ([] : Led)) (r := (m__law_same ((eL eD) ([(eS (m_check_figure (eS ("31812643017" : Str))).get), (eI (m_sum_of (eS ("318126430178" : Str))).get), ((eL eS) (m_slips_of (eS ("090000000001" : Str))).get)] : List PyData)) ((eL eD) ([(eS ("8" : Str)), (eI (50 : Int)), ((eL eS) ([("009000000001" : Str), ("900000000001" : Str)] : List Str))] : List PyData))).get) rfl (wk_of_sub (List.Sublist.trans (List.Sublist.refl _) (List.sublist_append_left _ _)))))
end
end W03

set_option Elab.async false
set_option linter.all false
set_option maxRecDepth 100000
set_option maxHeartbeats 4000000
namespace W03
open PySem PySem.Spec PyProof.Rows L2 Z Y
def tx (l : List Nat) : Str := ⟨l.toArray⟩
theorem tx_cps (l : List Nat) : (tx l).cps.toList = l := rfl
theorem tx_of (z : Str) : z = tx z.cps.toList := rfl
theorem tx_len (l : List Nat) : (tx l).length = l.length := List.size_toArray
theorem tx_app (a b : List Nat) : tx a ++ tx b = tx (a ++ b) := str_eq (by
  show ((a.toArray ++ b.toArray).toList) = a ++ b
  rw [Array.toList_append])
theorem app_tx (a b : Str) : (a ++ b).cps.toList = a.cps.toList ++ b.cps.toList := by
  show (a.cps ++ b.cps).toList = _
  rw [Array.toList_append]
theorem app_len (a b : Str) : (a ++ b).length = a.length + b.length := Array.size_append
theorem len_cps (a : Str) : a.length = a.cps.toList.length := Array.length_toList.symm
theorem tx_inj {a b : List Nat} : tx a = tx b ↔ a = b := ⟨fun h => congrArg (fun z : Str => z.cps.toList) h, fun h => h ▸ rfl⟩
def figs : List Nat := [48, 49, 50, 51, 52, 53, 54, 55, 56, 57]
theorem FIG_eq : ("0123456789" : Str) = tx figs := by decide +kernel
theorem sgns_tx (l : List Nat) : sgns (tx l) = l.map fun c => tx [c] := rfl
theorem fig_int : ∀ c ∈ figs, PySem.intText? (tx [c]) = some ((c : Int) - 48) := by decide +kernel
theorem fig_ok {c : Nat} (h : c ∈ figs) : okInt (tx [c]) = true := by
  unfold okInt
  rw [fig_int c h]
  rfl
theorem fig_val {c : Nat} (h : c ∈ figs) : intS (tx [c]) = (c : Int) - 48 := by
  unfold intS
  rw [fig_int c h]
  rfl
theorem fig_bd {c : Nat} (h : c ∈ figs) : 48 ≤ c ∧ c ≤ 57 := by
  have : ∀ c ∈ figs, 48 ≤ c ∧ c ≤ 57 := by decide
  exact this c h
/-- digits -/
def dg (l : List Nat) : Prop := ∀ c ∈ l, c ∈ figs
theorem dg_app {a b : List Nat} (h : dg a) (h2 : dg b) : dg (a ++ b) := fun c hc => (List.mem_append.mp hc).elim (h c) (h2 c)
theorem dg_take {a : List Nat} (n : Nat) (h : dg a) : dg (a.take n) := fun c hc => h c (List.mem_of_mem_take hc)
theorem dg_drop {a : List Nat} (n : Nat) (h : dg a) : dg (a.drop n) := fun c hc => h c (List.mem_of_mem_drop hc)
/-! what are n figures -/
def hsB (v : PyData) (n : Nat) : Bool := match v with
  | .str z => decide (z.length = n) && z.cps.toList.all fun c => decide (c ∈ figs)
  | _ => false
theorem hsB_tx {l : List Nat} {n : Nat} : hsB (eS (tx l)) n = true ↔ l.length = n ∧ dg l := by
  show (decide ((tx l).length = n) && (tx l).cps.toList.all fun c => decide (c ∈ figs)) = true ↔ _
  rw [Bool.and_eq_true, decide_eq_true_eq, tx_len, tx_cps, List.all_eq_true]
  exact and_congr Iff.rfl ⟨fun h c hc => of_decide_eq_true (h c hc), fun h c hc => decide_eq_true (h c hc)⟩
theorem hsB_ex {v : PyData} {n : Nat} (h : hsB v n = true) : ∃ l, v = eS (tx l) ∧ l.length = n ∧ dg l := by
  cases v with
  | str z =>
    have := (hsB_tx (l := z.cps.toList) (n := n)).mp h
    exact ⟨_, rfl, this⟩
  | _ => cases h
theorem inFig (c : Nat) : inB (tx [c]) (sgns ("0123456789" : Str)) = decide (c ∈ figs) := by
  rw [FIG_eq, sgns_tx]
  unfold inB
  rw [decide_eq_decide, List.mem_map]
  exact ⟨fun ⟨d, hd, e⟩ => by
    have := tx_inj.mp e
    injection this with e1
    exact e1 ▸ hd, fun h => ⟨c, h, rfl⟩⟩
def sm : PyData → Prop
  | .str z => z.length ≤ 1000
  | _ => True
theorem sm_tx {l : List Nat} (h : l.length ≤ 1000) : sm (eS (tx l)) := by
  show (tx l).length ≤ 1000
  rw [tx_len]
  exact h
theorem hs_no {v : PyData} {n : Int} {z : Str} (h : isD v "str" = false) : m_has_signs v n z = .ok false := by
  unfold m_has_signs
  rw [h, grd_pos (by exact fun h => by cases h)]
  rfl
theorem hs_eq {v : PyData} (hv : sm v) (n : Nat) : m_has_signs v (n : Int) ("0123456789" : Str) = .ok (hsB v n) := by
  cases v with
  | str z =>
    have hz : z.length ≤ 1000 := hv
    have e1 : isD (.str z) "str" = true := rfl
    have e2 : lenD (.str z) = (z.length : Int) := rfl
    have e3 : itemsD (.str z) = z.cps.toList.map fun c => PyData.str (tx [c]) := rfl
    unfold m_has_signs
    rw [grd_pos (by
      refine fun _ => ⟨decide_eq_true (Nat.le_of_lt (sz _ (by omega))), fun _ => ⟨rfl, fun x hx => ?_, ?_⟩⟩
      · rw [e3] at hx
        obtain ⟨c, _, rfl⟩ := List.mem_map.mp hx
        exact ⟨rfl, rfl⟩
      · rw [e3, List.length_map, ← len_cps]
        exact sz _ (by omega)), e1, e2, e3, List.all_map]
    show Res.ok _ = Res.ok _
    congr 1
    rw [Bool.true_and]
    show ((z.length : Int) == (n : Int) && _) = (decide (z.length = n) && _)
    congr 1
    · rw [Bool.eq_iff_iff, beq_iff_eq, decide_eq_true_eq]
      omega
    · exact congrArg (fun f => z.cps.toList.all f) (funext fun c => inFig c)
  | none => exact hs_no rfl
  | bool b => exact hs_no rfl
  | int i => exact hs_no rfl
  | list _ => exact hs_no rfl
  | tuple _ => exact hs_no rfl
  | dict _ => exact hs_no rfl
theorem num_eq {v : PyData} (hv : sm v) : m_is_number v = .ok (hsB v 12) := by
  unfold m_is_number
  rw [show (12 : Int) = ((12 : Nat) : Int) from rfl, hs_eq hv, grd_pos (by rfl)]
  rfl
/-! sums -/
def wt (i : Nat) (f : Int) : Int := if i % 2 = 1 then f else if f < 5 then 2 * f else 2 * f - 9
def sumW : Nat → List Nat → Int
  | _, [] => 0
  | i, c :: t => wt i ((c : Int) - 48) + sumW (i + 1) t
theorem weight_eq (i : Nat) (f : Int) : m_weight_of (i : Int) f = .ok (wt i f) := by
  unfold m_weight_of wt
  by_cases h : i % 2 = 1
  · have : (((i : Int) % 2) == 1) = true := by
      rw [beq_iff_eq]
      omega
    rw [this, if_pos h]
    rfl
  · have : (((i : Int) % 2) == 1) = false := by
      rw [beq_eq_false_iff_ne]
      omega
    rw [this, if_neg h]
    by_cases h5 : f < 5
    · rw [decide_eq_true h5, if_pos h5]
      rfl
    · rw [decide_eq_false h5, if_neg h5]
      rfl
theorem sumW_enum : ∀ (l : List Nat) (i : Nat), sumW i l = ((List.zipIdx l i).map fun p => wt p.2 ((p.1 : Int) - 48)).sum
  | [], _ => rfl
  | c :: t, i => by
    unfold sumW
    rw [List.zipIdx_cons, List.map_cons, List.sum_cons, sumW_enum t]
theorem sumW_app : ∀ (l : List Nat) (k c : Nat), sumW k (l ++ [c]) = sumW k l + wt (k + l.length) ((c : Int) - 48)
  | [], k, c => by
    show wt k _ + 0 = 0 + wt (k + 0) _
    rw [Nat.add_zero, Int.add_zero, Int.zero_add]
  | a :: t, k, c => by
    show wt k _ + sumW (k + 1) (t ++ [c]) = wt k _ + sumW (k + 1) t + _
    rw [sumW_app t (k + 1) c, List.length_cons, show k + 1 + t.length = k + (t.length + 1) by omega, Int.add_assoc]
theorem sumby_eq {l : List Nat} (h : dg l) (hl : l.length ≤ 1000) : m_sum_by (tx l) = .ok (sumW 0 l) := by
  unfold m_sum_by
  have key : enumI (sgns (tx l)) = (List.zipIdx l).map fun p => ((p.2 : Int), tx [p.1]) := by
    rw [sgns_tx]
    unfold enumI
    rw [List.zipIdx_map, List.map_map]
    rfl
  have hmem : ∀ p ∈ List.zipIdx l, p.1 ∈ figs := fun p hp => h _ (List.fst_mem_of_mem_zipIdx hp)
  rw [key, grd_pos (by
    refine ⟨fun x hx => ?_, ?_⟩
    · obtain ⟨p, hp, rfl⟩ := List.mem_map.mp hx
      refine ⟨fig_ok (hmem p hp), ?_⟩
      show (m_weight_of (p.2 : Int) _).isOk = true
      rw [weight_eq]
      rfl
    · rw [List.length_map, List.length_zipIdx]
      exact sz _ (by omega)), List.map_map, sumW_enum]
  show Res.ok _ = Res.ok _
  congr 2
  refine List.map_congr_left fun p hp => ?_
  show (m_weight_of (p.2 : Int) (intS (tx [p.1]))).get = _
  rw [weight_eq, get_ok, fig_val (hmem p hp)]
theorem ixS_tx {l : List Nat} {i c : Nat} (h : l[i]? = some c) : ixS (tx l) (i : Int) = tx [c] := by
  unfold ixS
  rw [tx_cps, atI_nat h]
  rfl
theorem lsum_eq {l : List Nat} (h : dg l) (hl : l.length ≤ 1000) : m__law_sum (tx l) = .ok (sumW 0 l) := by
  unfold m__law_sum
  rw [lt_eq, tx_len, grd_pos (by exact ⟨Nat.le_of_lt (sz _ (by omega)), bnd_of (by omega)⟩), forC_fold (s0 := (0 : Int)) (fun i => sumW 0 (l.take i)) rfl (fun i x hi => ?_)]
  · rw [rngI_len, show ((l.length : Int) - 0).toNat = l.length by omega, List.take_length]
    rfl
  · obtain ⟨rfl, hi2⟩ := rngI_get hi
    rw [Int.zero_add]
    have hlt : i < l.length := by omega
    have e : l[i]? = some l[i] := List.getElem?_eq_getElem hlt
    have hf := h _ (List.getElem_mem hlt)
    have hb := fig_bd hf
    dsimp only
    rw [ixS_tx e, grd_pos (by exact ⟨Nat.le_of_lt (sz _ (by omega)), okIx_nat hlt, fig_ok hf⟩), fig_val hf, lt_eq]
    have et : l.take (i + 1) = l.take i ++ [l[i]] := by
      rw [List.take_add_one, e]
      rfl
    have en : sumW 0 (l.take (i + 1)) = sumW 0 (l.take i) + wt i ((l[i] : Int) - 48) := by
      rw [et, sumW_app, List.length_take, Nat.min_eq_left (Nat.le_of_lt hlt), Nat.zero_add]
    generalize (l[i] : Int) - 48 = f at en ⊢
    rw [en]
    by_cases h2 : i % 2 = 0
    · have e2 : (((i : Int) % 2) == 0) = true := by
        rw [beq_iff_eq]
        omega
      have ew : wt i f = if f < 5 then 2 * f else 2 * f - 9 := if_neg (by omega)
      rw [e2, cond_true, ew]
      by_cases h9 : 9 < 2 * f
      · rw [decide_eq_true h9, if_neg (show ¬ f < 5 by omega), grd_pos (by rfl)]
        rfl
      · rw [decide_eq_false h9, if_pos (show f < 5 by omega), grd_pos (by rfl)]
        rfl
    · have e2 : (((i : Int) % 2) == 0) = false := by
        rw [beq_eq_false_iff_ne]
        omega
      have ew : wt i f = f := if_pos (by omega)
      rw [e2, cond_false, ew]
      rfl
def sound (l : List Nat) : Bool := (sumW 0 l % 10) == 0
theorem lsnd_eq {l : List Nat} (h : dg l) (hl : l.length ≤ 1000) : m__law_is_sound (tx l) = .ok (sound l) := by
  unfold m__law_is_sound
  rw [lsum_eq h hl, grd_pos (by rfl)]
  rfl
theorem snd_no {v : PyData} (hv : sm v) (h : hsB v 12 = false) : m_is_sound v = .ok false := by
  unfold m_is_sound
  rw [num_eq hv, h, grd_pos (by exact ⟨rfl, fun h => by cases h⟩)]
  rfl
theorem snd_eq {l : List Nat} (h : dg l) (hl : l.length = 12) : m_is_sound (eS (tx l)) = .ok (sound l) := by
  unfold m_is_sound
  have h1 : hsB (eS (tx l)) 12 = true := hsB_tx.mpr ⟨hl, h⟩
  have e : tyS.f (eS (tx l)) = tx l := rfl
  rw [num_eq (sm_tx (by omega)), h1, e, sumby_eq h (by omega), grd_pos (by exact ⟨rfl, fun _ => ⟨rfl, rfl⟩⟩)]
  rfl
theorem check_eq (b : Bool) : m_check_is b = bif b then .ok () else .ex 0 := by cases b <;> rfl
end W03

set_option Elab.async false
set_option linter.all false
set_option maxRecDepth 100000
set_option maxHeartbeats 4000000
namespace W03
open PySem PySem.Spec PyProof.Rows L2 Z Y
/-! check figures -/
def cf (l : List Nat) : Str := tx [48 + (-(sumW 0 l) % 10).toNat]
theorem ten_str : ∀ i < 10, (Str.ofString (toString ((i : Nat) : Int))) = tx [48 + i] := by decide +kernel
theorem ten_log : ∀ i < 10, ((i : Nat) : Int).natAbs.log2 < 1920 := by decide +kernel
theorem cf_no {v : PyData} (hv : sm v) (h : hsB v 11 = false) : m_check_figure v = .ex 0 := by
  unfold m_check_figure
  rw [show ((12 : Int) - 1) = ((11 : Nat) : Int) from rfl, hs_eq hv, h, grd_pos (by rfl), get_ok, check_eq]
  rfl
theorem cf_eq {l : List Nat} (h : dg l) (hl : l.length = 11) : m_check_figure (eS (tx l)) = .ok (cf l) := by
  have h1 : hsB (eS (tx l)) 11 = true := hsB_tx.mpr ⟨hl, h⟩
  have e : tyS.f (eS (tx l)) = tx l := rfl
  have eb : (-(sumW 0 l) % 10) = (((-(sumW 0 l) % 10).toNat : Nat) : Int) := by omega
  have lt : (-(sumW 0 l) % 10).toNat < 10 := by omega
  unfold m_check_figure
  rw [show ((12 : Int) - 1) = ((11 : Nat) : Int) from rfl, hs_eq (sm_tx (by omega)), h1, grd_pos (by rfl), get_ok, check_eq]
  show Y.run (grd _ _) = _
  rw [grd_pos (by rfl), lt_eq, e, sumby_eq h (by omega), grd_pos (by exact ⟨rfl, by rw [get_ok, eb]; exact ten_log _ lt⟩), get_ok]
  show Res.ok _ = Res.ok _
  unfold cf
  rw [← ten_str _ lt, ← eb]
theorem so_no {v : PyData} (hv : sm v) (h : hsB v 12 = false) : m_sum_of v = .ex 0 := by
  unfold m_sum_of
  rw [num_eq hv, h, grd_pos (by rfl), get_ok, check_eq]
  rfl
theorem so_eq {l : List Nat} (h : dg l) (hl : l.length = 12) : m_sum_of (eS (tx l)) = .ok (sumW 0 l) := by
  have h1 : hsB (eS (tx l)) 12 = true := hsB_tx.mpr ⟨hl, h⟩
  have e : tyS.f (eS (tx l)) = tx l := rfl
  unfold m_sum_of
  rw [num_eq (sm_tx (by omega)), h1, grd_pos (by rfl), get_ok, check_eq]
  show Y.run (grd _ _) = _
  rw [grd_pos (by rfl), lt_eq, e, sumby_eq h (by omega), grd_pos (by rfl)]
  rfl
theorem ten_fig : ∀ q < 10, (figs.filter fun c : Nat => (((q : Nat) : Int) + ((c : Int) - 48)) % 10 == 0) = [48 + (-((q : Nat) : Int) % 10).toNat] := by decide +kernel
theorem FIG_sgns : sgns ("0123456789" : Str) = figs.map fun c => tx [c] := by rw [FIG_eq, sgns_tx]
theorem lcheck_eq {l : List Nat} (h : dg l) (hl : l.length = 11) : m__law_check (tx l) = .ok (cf l) := by
  have hd : ∀ c ∈ figs, dg (l ++ [c]) := fun c hc => dg_app h fun d hd => by
    rw [List.mem_singleton.mp hd]
    exact hc
  have hs : ∀ c ∈ figs, m__law_is_sound (tx l ++ tx [c]) = .ok (((sumW 0 l + ((c : Int) - 48)) % 10) == 0) := fun c hc => by
    rw [tx_app, lsnd_eq (hd c hc) (by rw [List.length_append]; simp; omega)]
    unfold sound
    rw [sumW_app, hl]
    rfl
  have ef : (((sgns ("0123456789" : Str)).filter fun x1 : Str => (m__law_is_sound (tx l ++ x1)).get).map fun x1 : Str => x1) = [cf l] := by
    rw [List.map_id', FIG_sgns, List.filter_map]
    have : figs.filter ((fun x1 : Str => (m__law_is_sound (tx l ++ x1)).get) ∘ fun c => tx [c]) = figs.filter fun c : Nat => ((((sumW 0 l % 10).toNat : Nat) : Int) + ((c : Int) - 48)) % 10 == 0 := by
      refine List.filter_congr fun c hc => ?_
      show (m__law_is_sound (tx l ++ tx [c])).get = _
      rw [hs c hc, get_ok]
      congr 1
      have : (((sumW 0 l % 10).toNat : Nat) : Int) = sumW 0 l % 10 := by omega
      rw [this]
      omega
    rw [this, ten_fig _ (by omega)]
    unfold cf
    have : (-(((sumW 0 l % 10).toNat : Nat) : Int)) % 10 = -(sumW 0 l) % 10 := by omega
    rw [this]
    rfl
  unfold m__law_check
  rw [ef, grd_pos (by
    refine ⟨fun x hx => ?_, ?_, okIx_nat (k := 0) Nat.zero_lt_one⟩
    · rw [FIG_sgns] at hx
      obtain ⟨c, hc, rfl⟩ := List.mem_map.mp hx
      rw [hs c hc, tx_len, tx_len]
      exact ⟨szl _ (by simp; omega), rfl⟩
    · rw [FIG_sgns, List.length_map]
      exact sz _ (by decide))]
  exact congrArg Res.ok (ix_nat (k := 0) rfl)
theorem cf_dg {l : List Nat} : 48 + (-(sumW 0 l) % 10).toNat ∈ figs := by
  have : ∀ q < 10, 48 + q ∈ figs := by decide
  exact this _ (by omega)
/-! changed ones -/
def sw (z : Str) (x : Int) : Str := (((cutStr z none (some x)) ++ (ixS z (x + (1 : Int)))) ++ (ixS z x)) ++ (cutStr z (some (x + (2 : Int))) none)
def isN (z : Str) : Prop := ∃ l, z = tx l ∧ l.length = 12 ∧ dg l
theorem cut_tx_to (l : List Nat) (i : Nat) : cutStr (tx l) none (some (i : Int)) = tx (l.take i) := by
  unfold cutStr
  rw [tx_cps, cut_to]
  rfl
theorem cut_tx_from (l : List Nat) (i : Nat) : cutStr (tx l) (some (i : Int)) none = tx (l.drop i) := by
  unfold cutStr
  rw [tx_cps, cut_from]
  rfl
theorem sw_ok {l : List Nat} (h : dg l) (hl : l.length = 12) {x : Int} (h0 : 0 ≤ x) (h1 : x < 11) : isN (sw (tx l) x) := by
  obtain ⟨i, rfl⟩ : ∃ i : Nat, x = (i : Int) := ⟨x.toNat, by omega⟩
  have a : l[i]? = some l[i] := List.getElem?_eq_getElem (by omega)
  have b : l[i + 1]? = some l[i + 1] := List.getElem?_eq_getElem (by omega)
  refine ⟨l.take i ++ [l[i + 1]] ++ [l[i]] ++ l.drop (i + 2), ?_, ?_, ?_⟩
  · unfold sw
    rw [cut_tx_to, ixS_tx a, show ((i : Int) + 1) = ((i + 1 : Nat) : Int) by omega, ixS_tx b, show ((i : Int) + 2) = ((i + 2 : Nat) : Int) by omega, cut_tx_from, tx_app, tx_app, tx_app]
  · simp only [List.length_append, List.length_take, List.length_drop, List.length_singleton]
    omega
  · have one : ∀ c ∈ l, dg [c] := fun c hc d hd => by
      rw [List.mem_singleton.mp hd]
      exact h c hc
    exact dg_app (dg_app (dg_app (dg_take i h) (one _ (List.getElem_mem _))) (one _ (List.getElem_mem _))) (dg_drop _ h)
def kinAt (z : Str) (x : Int) : List Str := ((sgns ("0123456789" : Str)).filter fun x21 : Str => (!(x21 == (ixS z x)))).map fun x21 : Str => (((cutStr z none (some x)) ++ x21) ++ (cutStr z (some (x + (1 : Int))) none))
theorem kin_ok {l : List Nat} (h : dg l) (hl : l.length = 12) {x : Int} (h0 : 0 ≤ x) (h1 : x < 12) {z : Str} (hz : z ∈ kinAt (tx l) x) : isN z := by
  obtain ⟨i, rfl⟩ : ∃ i : Nat, x = (i : Int) := ⟨x.toNat, by omega⟩
  obtain ⟨f, hf, rfl⟩ := List.mem_map.mp hz
  have hf := (List.mem_filter.mp hf).1
  rw [FIG_sgns] at hf
  obtain ⟨c, hc, rfl⟩ := List.mem_map.mp hf
  refine ⟨l.take i ++ [c] ++ l.drop (i + 1), ?_, ?_, ?_⟩
  · rw [cut_tx_to, show ((i : Int) + 1) = ((i + 1 : Nat) : Int) by omega, cut_tx_from, tx_app, tx_app]
  · simp only [List.length_append, List.length_take, List.length_drop, List.length_singleton]
    omega
  · exact dg_app (dg_app (dg_take i h) fun d hd => by
      rw [List.mem_singleton.mp hd]
      exact hc) (dg_drop _ h)
theorem isN_snd {z : Str} (h : isN z) : m_is_sound (eS z) = .ok (sound z.cps.toList) ∧ m__law_is_sound z = .ok (sound z.cps.toList) := by
  obtain ⟨l, rfl, hl, hd⟩ := h
  exact ⟨snd_eq hd hl, lsnd_eq hd (by omega)⟩
end W03

set_option Elab.async false
set_option linter.all false
set_option maxRecDepth 100000
set_option maxHeartbeats 4000000
namespace W03
open PySem PySem.Spec PyProof.Rows L2 Z Y
/-! slips -/
def isSlip (z o : Str) : Bool := (!(o == z)) && sound o.cps.toList
def put1 (P : Str → Bool) (f : List (Str × Bool)) (o : Str) : List (Str × Bool) := bif P o then putA f o true else f
theorem putA_keys {f : List (Str × Bool)} {o : Str} {b : Bool} : keysA (putA f o b) = if o ∈ keysA f then keysA f else keysA f ++ [o] := by
  have e : hasA f o = decide (o ∈ keysA f) := by
    unfold hasA keysA
    rw [Bool.eq_iff_iff, List.any_eq_true, decide_eq_true_eq, List.mem_map]
    exact ⟨fun ⟨p, hp, q⟩ => ⟨p, hp, of_decide_eq_true q⟩, fun ⟨p, hp, q⟩ => ⟨p, hp, decide_eq_true q⟩⟩
  unfold putA
  rw [e]
  by_cases h : o ∈ keysA f
  · rw [if_pos (decide_eq_true h), if_pos h]
    unfold keysA
    rw [List.map_map]
    refine List.map_congr_left fun p _ => ?_
    show (if p.1 = o then (p.1, b) else p).1 = p.1
    split <;> rfl
  · rw [if_neg (fun z => h (of_decide_eq_true z)), if_neg h]
    unfold keysA
    rw [List.map_append]
    rfl
theorem fold_keys {P : Str → Bool} : ∀ (xs : List Str) (f : List (Str × Bool)), (keysA f).Nodup → (keysA (xs.foldl (put1 P) f)).Nodup ∧ (∀ z, z ∈ keysA (xs.foldl (put1 P) f) ↔ z ∈ keysA f ∨ (z ∈ xs ∧ P z = true)) ∧ (xs.foldl (put1 P) f).length ≤ f.length + xs.length
  | [], f, h => ⟨h, fun z => by simp, Nat.le_refl _⟩
  | o :: r, f, h => by
    rw [List.foldl_cons]
    have hk : (keysA (put1 P f o)).Nodup ∧ (∀ z, z ∈ keysA (put1 P f o) ↔ z ∈ keysA f ∨ (z = o ∧ P z = true)) ∧ (put1 P f o).length ≤ f.length + 1 := by
      unfold put1
      cases hp : P o with
      | false =>
        refine ⟨h, fun z => ⟨.inl, fun q => q.elim id fun q => ?_⟩, Nat.le_succ _⟩
        rw [q.1, hp] at q
        cases q.2
      | true =>
        rw [cond_true, putA_keys]
        have hl : (putA f o true).length ≤ f.length + 1 := by
          have e : (keysA (putA f o true)).length ≤ (keysA f).length + 1 := by
            rw [putA_keys]
            split
            · exact Nat.le_succ _
            · rw [List.length_append]
              exact Nat.le_refl _
          unfold keysA at e
          rwa [List.length_map, List.length_map] at e
        by_cases hm : o ∈ keysA f
        · rw [if_pos hm]
          exact ⟨h, fun z => ⟨.inl, fun q => q.elim id fun q => q.1 ▸ hm⟩, hl⟩
        · rw [if_neg hm]
          refine ⟨List.nodup_append.mpr ⟨h, by simp, fun a ha b hb => ?_⟩, fun z => ?_, hl⟩
          · rw [List.mem_singleton.mp hb]
            exact fun e => hm (e ▸ ha)
          · rw [List.mem_append, List.mem_singleton]
            exact ⟨fun q => q.imp_right fun e => ⟨e, e ▸ hp⟩, fun q => q.imp_right And.left⟩
    obtain ⟨k1, k2, k3⟩ := hk
    obtain ⟨i1, i2, i3⟩ := fold_keys r (put1 P f o) k1
    refine ⟨i1, fun z => ?_, by rw [List.length_cons]; omega⟩
    rw [i2, k2, List.mem_cons]
    constructor
    · rintro ((h | h) | h)
      · exact .inl h
      · exact .inr ⟨.inl h.1, h.2⟩
      · exact .inr ⟨.inr h.1, h.2⟩
    · rintro (h | ⟨h | h, hp⟩)
      · exact .inl (.inl h)
      · exact .inl (.inr ⟨h, hp⟩)
      · exact .inr ⟨h, hp⟩
theorem cut_len_le (z : Str) (lo hi : Option Int) : (cutStr z lo hi).length ≤ z.length := by
  unfold cutStr
  rw [len_cps, len_cps]
  exact cut_le _ lo hi
theorem ixS_len (z : Str) (i : Int) : (ixS z i).length = 1 := rfl
theorem sw_grd {l : List Nat} (hl : l.length = 12) {x : Int} (h0 : 0 ≤ x) (h1 : x < 11) : (tx l).length ≤ sizeLine ∧ okIx (tx l).cps.toList (x + (1 : Int)) ∧ (cutStr (tx l) none (some x)).length + (ixS (tx l) (x + (1 : Int))).length ≤ sizeLine ∧ okIx (tx l).cps.toList x ∧ ((cutStr (tx l) none (some x)) ++ (ixS (tx l) (x + (1 : Int)))).length + (ixS (tx l) x).length ≤ sizeLine ∧ (((cutStr (tx l) none (some x)) ++ (ixS (tx l) (x + (1 : Int)))) ++ (ixS (tx l) x)).length + (cutStr (tx l) (some (x + (2 : Int))) none).length ≤ sizeLine := by
  have a := cut_len_le (tx l) none (some x)
  have b := cut_len_le (tx l) (some (x + 2)) none
  rw [tx_len] at a b
  have c := ixS_len (tx l) x
  have d := ixS_len (tx l) (x + 1)
  refine ⟨by rw [tx_len]; exact szl _ (by omega), okIx_int (by omega) (by rw [tx_cps]; omega), szl _ (by omega), okIx_int h0 (by rw [tx_cps]; omega), szl _ (by rw [app_len]; omega), szl _ (by rw [app_len, app_len]; omega)⟩
def swaps (z : Str) : List Str := (rngI 0 (11 : Int)).map fun x => sw z x
theorem swaps_ok {l : List Nat} (h : dg l) (hl : l.length = 12) {z : Str} (hz : z ∈ swaps (tx l)) : isN z := by
  obtain ⟨x, hx, rfl⟩ := List.mem_map.mp hz
  have := rngI_mem.mp hx
  exact sw_ok h hl this.1 this.2
theorem sl_no {v : PyData} (h : m_is_sound v = .ok false) : m_slips_of v = .ex 0 := by
  unfold m_slips_of
  rw [h, grd_pos (by rfl), get_ok, check_eq]
  rfl
theorem sl_eq {l : List Nat} (h : dg l) (hl : l.length = 12) (hs : sound l = true) : m_slips_of (eS (tx l)) = .ok (usortS ((swaps (tx l)).filter fun o => isSlip (tx l) o)) := by
  have e : tyS.f (eS (tx l)) = tx l := rfl
  unfold m_slips_of
  rw [snd_eq h hl, hs, grd_pos (by rfl), get_ok, check_eq]
  show Y.run (grd _ _) = _
  rw [grd_pos (by rfl), lt_eq, e, lt_eq, grd_pos (by exact bnd_of (by omega)), show ((12 : Int) - 1) = 11 from rfl]
  rw [forC_fold (s0 := ([] : List (Str × Bool))) (fun i => ((swaps (tx l)).take i).foldl (put1 (isSlip (tx l))) []) rfl (fun i x hi => ?_)]
  · have hk := fold_keys (P := isSlip (tx l)) (swaps (tx l)) [] .nil
    have hlen : (swaps (tx l)).length = 11 := by
      unfold swaps
      rw [List.length_map, rngI_len]
      rfl
    rw [rngI_len, show ((11 : Int) - 0).toNat = 11 by rfl, ← hlen, List.take_length]
    show Y.run (grd _ _) = _
    rw [grd_pos (by
      have := hk.2.2
      rw [hlen] at this
      exact Nat.lt_of_le_of_lt this (by decide))]
    show Res.ok _ = Res.ok _
    congr 1
    refine usortS_of hk.1 fun z => ?_
    rw [hk.2.1, List.mem_filter]
    exact ⟨fun q => q.elim (fun y => by cases y) id, .inr⟩
  · obtain ⟨rfl, hi2⟩ := rngI_get hi
    have hx0 : (0 : Int) ≤ 0 + (i : Int) := by omega
    have hx1 : (0 : Int) + (i : Int) < 11 := by omega
    have hN := sw_ok h hl hx0 hx1
    dsimp only
    rw [grd_pos (by exact sw_grd hl hx0 hx1), lt_eq]
    show (grd ((!(sw (tx l) (0 + (i : Int)) == tx l)) = true → (m_is_sound (eS (sw (tx l) (0 + (i : Int))))).isOk = true) (bif ((!(sw (tx l) (0 + (i : Int)) == tx l)) && (m_is_sound (eS (sw (tx l) (0 + (i : Int))))).get) then _ else _) : Ctl _ _ _) = _
    have et : (swaps (tx l)).take (i + 1) = (swaps (tx l)).take i ++ [sw (tx l) (0 + (i : Int))] := by
      rw [List.take_add_one]
      have : (swaps (tx l))[i]? = some (sw (tx l) (0 + (i : Int))) := by
        unfold swaps
        rw [List.getElem?_map, hi]
        rfl
      rw [this]
      rfl
    rw [(isN_snd hN).1, grd_pos (by exact fun _ => rfl), get_ok, et, List.foldl_append]
    have hk := (fold_keys (P := isSlip (tx l)) ((swaps (tx l)).take i) [] .nil).2.2
    generalize ((swaps (tx l)).take i).foldl (put1 (isSlip (tx l))) [] = F at hk ⊢
    show (bif isSlip (tx l) (sw (tx l) (0 + (i : Int))) then _ else _ : Ctl _ _ _) = Ctl.nx (put1 (isSlip (tx l)) F (sw (tx l) (0 + (i : Int))))
    unfold put1
    cases isSlip (tx l) (sw (tx l) (0 + (i : Int))) with
    | false => rfl
    | true =>
      rw [cond_true, cond_true, grd_pos (by
        rw [List.length_take] at hk
        exact sz _ (by simp at hk; omega))]
      rfl
/-! kin -/
def kinL (z : Str) (i : Nat) : List Str := ((rngI 0 (12 : Int)).take i).flatMap (kinAt z)
theorem kinL_succ (z : Str) {i : Nat} {x : Int} (h : (rngI 0 (12 : Int))[i]? = some x) : kinL z (i + 1) = kinL z i ++ kinAt z x := by
  unfold kinL
  rw [List.take_add_one, h, Option.toList_some, List.flatMap_append, List.flatMap_singleton]
theorem kinAt_len (z : Str) (x : Int) : (kinAt z x).length ≤ 10 := by
  unfold kinAt
  rw [List.length_map]
  refine Nat.le_trans (List.length_filter_le _ _) ?_
  rw [FIG_sgns, List.length_map]
  exact Nat.le_refl _
theorem kinL_len (z : Str) : ∀ i, i ≤ 12 → (kinL z i).length ≤ 10 * i
  | 0, _ => Nat.le_refl _
  | i + 1, h => by
    have hx : (rngI 0 (12 : Int))[i]? = some (i : Int) := by
      rw [show (12 : Int) = ((12 : Nat) : Int) from rfl, rngI_zero]
      show ((List.range 12).map fun k : Nat => (k : Int))[i]? = _
      rw [List.getElem?_map, List.getElem?_range (by omega)]
      rfl
    rw [kinL_succ z hx, List.length_append]
    have := kinL_len z i (by omega)
    have := kinAt_len z i
    omega
theorem kinL_ok {l : List Nat} (h : dg l) (hl : l.length = 12) {i : Nat} {z : Str} (hz : z ∈ kinL (tx l) i) : isN z := by
  obtain ⟨x, hx, hz⟩ := List.mem_flatMap.mp hz
  have := rngI_mem.mp (List.mem_of_mem_take hx)
  exact kin_ok h hl this.1 this.2 hz
theorem kin_grd {l : List Nat} (hl : l.length = 12) {x : Int} (h0 : 0 ≤ x) (h1 : x < 12) : (∀ x3 ∈ (sgns ("0123456789" : Str)), (tx l).length ≤ sizeLine ∧ okIx (tx l).cps.toList x ∧ ((!(x3 == (ixS (tx l) x))) = true → (tx l).length ≤ sizeLine ∧ (cutStr (tx l) none (some x)).length + x3.length ≤ sizeLine ∧ ((cutStr (tx l) none (some x)) ++ x3).length + (cutStr (tx l) (some (x + (1 : Int))) none).length ≤ sizeLine)) ∧ (sgns ("0123456789" : Str)).length < sizeLine := by
  have a := cut_len_le (tx l) none (some x)
  have b := cut_len_le (tx l) (some (x + 1)) none
  rw [tx_len] at a b
  refine ⟨fun f hf => ?_, by rw [FIG_sgns, List.length_map]; exact sz _ (by decide)⟩
  rw [FIG_sgns] at hf
  obtain ⟨c, _, rfl⟩ := List.mem_map.mp hf
  have d : (tx [c]).length = 1 := rfl
  exact ⟨by rw [tx_len]; exact szl _ (by omega), okIx_int h0 (by rw [tx_cps]; omega), fun _ => ⟨by rw [tx_len]; exact szl _ (by omega), szl _ (by omega), szl _ (by rw [app_len]; omega)⟩⟩
def fineL (xs : List Str) : List Str := xs.filter fun z => sound z.cps.toList
theorem ki_no {v : PyData} (hv : sm v) (h : hsB v 12 = false) : m_kin_of v = .ex 0 := by
  unfold m_kin_of
  rw [num_eq hv, h, grd_pos (by rfl), get_ok, check_eq]
  rfl
theorem ki_eq {l : List Nat} (h : dg l) (hl : l.length = 12) : m_kin_of (eS (tx l)) = .ok (sortS (fineL (kinL (tx l) 12))) := by
  have h1 : hsB (eS (tx l)) 12 = true := hsB_tx.mpr ⟨hl, h⟩
  have e : tyS.f (eS (tx l)) = tx l := rfl
  unfold m_kin_of
  rw [num_eq (sm_tx (by omega)), h1, grd_pos (by rfl), get_ok, check_eq]
  show Y.run (grd _ _) = _
  rw [grd_pos (by rfl), lt_eq, e, lt_eq, grd_pos (by exact bnd_of (by omega))]
  rw [forC_fold (s0 := ([] : List Str)) (fun i => fineL (kinL (tx l) i)) rfl (fun i x hi => ?_)]
  · rw [rngI_len]
    rfl
  · obtain ⟨ex, hi2⟩ := rngI_get hi
    have hx0 : (0 : Int) ≤ x := by omega
    have hx1 : x < 12 := by omega
    dsimp only
    rw [grd_pos (by exact kin_grd hl hx0 hx1), lt_eq]
    have hok : ∀ z ∈ kinAt (tx l) x, m_is_sound (eS z) = .ok (sound z.cps.toList) := fun z hz => (isN_snd (kin_ok h hl hx0 hx1 hz)).1
    have hf : (((kinAt (tx l) x).filter fun x9 : Str => (m_is_sound (eS x9)).get).map fun x9 : Str => x9) = fineL (kinAt (tx l) x) := by
      rw [List.map_id']
      refine List.filter_congr fun z hz => ?_
      rw [hok z hz, get_ok]
    have hl2 : (fineL (kinL (tx l) i)).length ≤ 120 := Nat.le_trans (List.length_filter_le _ _) (Nat.le_trans (kinL_len _ i (by omega)) (by omega))
    have hl3 : (fineL (kinAt (tx l) x)).length ≤ 10 := Nat.le_trans (List.length_filter_le _ _) (kinAt_len _ _)
    show (grd ((∀ x9 ∈ kinAt (tx l) x, (m_is_sound (eS x9)).isOk = true) ∧ (kinAt (tx l) x).length < sizeLine ∧ (fineL (kinL (tx l) i)).length + (((kinAt (tx l) x).filter fun x9 : Str => (m_is_sound (eS x9)).get).map fun x9 : Str => x9).length ≤ sizeLine)
      (lt (fineL (kinL (tx l) i) ++ (((kinAt (tx l) x).filter fun x9 : Str => (m_is_sound (eS x9)).get).map fun x9 : Str => x9)) fun v => .nx v) : Ctl _ _ _) = _
    rw [hf, grd_pos (by exact ⟨fun z hz => by rw [hok z hz]; rfl, sz _ (by have := kinAt_len (tx l) x; omega), szl _ (by omega)⟩), kinL_succ _ hi]
    unfold fineL
    rw [List.filter_append]
    rfl
end W03

set_option Elab.async false
set_option linter.all false
set_option maxRecDepth 100000
set_option maxHeartbeats 4000000
namespace W03
open PySem PySem.Spec PyProof.Rows L2 Z Y
theorem num_int {l : List Nat} (h : dg l) (hl : l.length = 12) : okInt (tx l) = true := by
  have e := PySem.intText_digits (x := tx l) (fun c hc => fig_bd (h c hc)) (by rw [tx_cps]; intro z; rw [z] at hl; cases hl) (by rw [tx_len]; omega)
  unfold okInt
  rw [e, tx_len, hl]
  rfl
theorem join_tx (cs : List Nat) : Txt.join ("" : Str) (cs.map fun c => tx [c]) = tx cs := by
  have e0 : ("" : Str) = tx [] := by decide +kernel
  show Builtin.Str.glued ("" : Str) (cs.map fun c => tx [c]) = _
  rw [StrLaws.glued_eq_join, e0]
  induction cs with
  | nil => rfl
  | cons c t ih =>
    cases t with
    | nil => rfl
    | cons d r =>
      show (tx [c] ++ tx []) ++ Str.join (tx []) ((d :: r).map fun c => tx [c]) = _
      rw [ih, tx_app, tx_app]
      rfl
theorem signs_of : ∀ {ys : List Str}, (∀ y ∈ ys, ∃ c ∈ figs, y = tx [c]) → ∃ cs, ys = cs.map (fun c => tx [c]) ∧ dg cs
  | [], _ => ⟨[], rfl, fun c hc => by cases hc⟩
  | y :: r, h => by
    obtain ⟨c, hc, rfl⟩ := h _ List.mem_cons_self
    obtain ⟨cs, e, hd⟩ := signs_of fun z hz => h z (List.mem_cons_of_mem _ hz)
    exact ⟨c :: cs, by rw [e]; rfl, fun d hd' => (List.mem_cons.mp hd').elim (fun e => e ▸ hc) (hd d)⟩
theorem FIG2 : ∀ y ∈ sgns (("0123456789" : Str) ++ ("0909" : Str)), ∃ c ∈ figs, y = tx [c] := by
  have e : (("0123456789" : Str) ++ ("0909" : Str)) = tx (figs ++ [48, 57, 48, 57]) := by decide +kernel
  rw [e, sgns_tx]
  intro y hy
  obtain ⟨c, hc, rfl⟩ := List.mem_map.mp hy
  have : ∀ c ∈ figs ++ [48, 57, 48, 57], c ∈ figs := by decide
  exact ⟨c, this c hc, rfl⟩
theorem FIG2_ne : sgns (("0123456789" : Str) ++ ("0909" : Str)) ≠ [] := by decide +kernel
theorem FIG_ne : sgns ("0123456789" : Str) ≠ [] := by decide +kernel
theorem sum_one : ∀ cs : List Nat, ((cs.map fun c => tx [c]).map (·.length)).sum = cs.length
  | [] => rfl
  | c :: t => by
    rw [List.map_cons, List.map_cons, List.sum_cons, sum_one t, List.length_cons, tx_len]
    simp
    omega
theorem lnum_ok (ds : List Nat) : ∃ l ds', m__law_number ds = .ok (tx l, ds') ∧ l.length = 12 ∧ dg l := by
  unfold m__law_number
  have hM := mapS_all (f := fun (x1 : Int) (d6 : List Nat) => ((pkV d6 (sgns (("0123456789" : Str) ++ ("0909" : Str)))), (tkD d6))) (xs := rngI 0 (11 : Int)) (s := ds) (p := fun y => ∃ c ∈ figs, y = tx [c]) fun x _ s => FIG2 _ (pk_mem FIG2_ne)
  have hL := mapS_len (fun (x1 : Int) (d6 : List Nat) => ((pkV d6 (sgns (("0123456789" : Str) ++ ("0909" : Str)))), (tkD d6))) (rngI 0 (11 : Int)) ds
  generalize (mapS (fun (x1 : Int) (d6 : List Nat) => ((pkV d6 (sgns (("0123456789" : Str) ++ ("0909" : Str)))), (tkD d6))) (rngI 0 (11 : Int)) ds) = MS at hM hL ⊢
  obtain ⟨ys, d1⟩ := MS
  obtain ⟨cs, e, hd⟩ := signs_of hM
  have e : ys = _ := e
  subst e
  have hc : cs.length = 11 := by
    have hL : (cs.map fun c => tx [c]).length = _ := hL
    rw [List.length_map, rngI_len] at hL
    exact hL
  dsimp only
  have hp := pk_mem (ds := d1) FIG_ne
  rw [FIG_sgns] at hp
  have l0 : ("" : Str).length = 0 := by decide +kernel
  have l1 : (("0123456789" : Str) ++ ("0909" : Str)).length ≤ sizeLine := szl _ (by decide +kernel)
  have l2 : ("0123456789" : Str).length + ("0909" : Str).length ≤ sizeLine := szl _ (by decide +kernel)
  have l3 : ("0123456789" : Str).length ≤ sizeLine := szl _ (by decide +kernel)
  rw [grd_pos (by
    refine ⟨bnd_of (by omega), fun x hx d => ⟨l2, l1, FIG2_ne⟩, sz _ (by rw [rngI_len]; decide), ?_⟩
    rw [sum_one, l0, hc, Nat.mul_zero]
    decide), lt_eq, lt_eq, join_tx, lcheck_eq hd hc, get_ok]
  have hne : ([cf cs, cf cs, pkV d1 (sgns ("0123456789" : Str))] : List Str) ≠ [] := by simp
  have hq := pk_mem (ds := tkD d1) hne
  have hone : ∃ c ∈ figs, pkV (tkD d1) ([cf cs, cf cs, pkV d1 (sgns ("0123456789" : Str))] : List Str) = tx [c] := by
    obtain ⟨c, hc', e'⟩ := List.mem_map.mp hp
    rw [← FIG_sgns] at e'
    simp only [List.mem_cons, List.not_mem_nil, or_false] at hq
    rcases hq with h | h | h
    · exact ⟨_, cf_dg (l := cs), h⟩
    · exact ⟨_, cf_dg (l := cs), h⟩
    · exact ⟨c, hc', h.trans e'.symm⟩
  obtain ⟨c, hcf, ec⟩ := hone
  rw [ec, grd_pos (by exact ⟨rfl, l3, FIG_ne, hne, szl _ (by rw [tx_len, tx_len]; simp; omega)⟩)]
  refine ⟨cs ++ [c], _, congrArg Res.ok (Prod.ext (tx_app cs [c]) rfl), by rw [List.length_append, hc]; rfl, dg_app hd fun d hd' => ?_⟩
  rw [List.mem_singleton.mp hd']
  exact hcf
/-! what is told -/
def flag (c : Nat) : PyData := eL eB (flV c)
def outR {α : Type} (e : α → PyData) : Res α → Res PyData
  | .ok a => .ok (e a)
  | .ex c => if c ∈ [0] then .ok (flag c) else .bad
  | .bad => .bad
theorem out_run {α : Type} (e : α → PyData) (r : Res α) : Y.run (tryB [0] (callC r fun v => .rt (e v)) fun cc => .rt ((eL eB) (flV cc)) : Ctl Unit Unit PyData) = outR e r := by
  cases r with
  | ok a => rfl
  | bad => rfl
  | ex c =>
    show Y.run (if c ∈ [0] then _ else _) = if c ∈ [0] then _ else _
    split <;> rfl
theorem told0 (v : PyData) : m__law_told 0 v = outR eS (m_check_figure v) := out_run _ _
theorem told1 (v : PyData) : m__law_told 1 v = outR eI (m_sum_of v) := out_run _ _
theorem told2 (v : PyData) : m__law_told 2 v = outR (eL eS) (m_slips_of v) := out_run _ _
theorem told3 (v : PyData) : m__law_told 3 v = outR (eL eS) (m_kin_of v) := out_run _ _
theorem okD_flag (c n : Nat) : okD (n + 1) (flag c) := okD_L (by show 5 ≤ _; decide) fun _ _ => okD_bool _ _
/-- no number -/
theorem none12 {v : PyData} (hv : sm v) (h : hsB v 12 = false) : m_is_number v = .ok false ∧ m_is_sound v = .ok false ∧ m__law_told 1 v = .ok (flag 0) ∧ m__law_told 2 v = .ok (flag 0) ∧ m__law_told 3 v = .ok (flag 0) := by
  refine ⟨(num_eq hv).trans (congrArg Res.ok h), snd_no hv h, ?_, ?_, ?_⟩
  · rw [told1, so_no hv h]
    rfl
  · rw [told2, sl_no (snd_no hv h)]
    rfl
  · rw [told3, ki_no hv h]
    rfl
theorem none11 {v : PyData} (hv : sm v) (h : hsB v 11 = false) : m__law_told 0 v = .ok (flag 0) := by
  rw [told0, cf_no hv h]
  rfl
theorem not_len {l : List Nat} {n : Nat} (h : l.length ≠ n) : hsB (eS (tx l)) n = false := Bool.eq_false_iff.mpr fun z => h (hsB_tx.mp z).1
end W03

set_option Elab.async false
set_option linter.all false
set_option maxRecDepth 100000
set_option maxHeartbeats 4000000
namespace W03
open PySem PySem.Spec PyProof.Rows L2 Z Y
theorem same_of {a b : PyData} (h : a = b) (h2 : okD 8 a) : m__law_same a b = .ok true := by
  rw [← h]
  exact same_ok h2
theorem okD_strs {xs : List Str} (h : xs.length ≤ 1000000) (n : Nat) : okD (n + 1) (eL eS xs) := okD_L h fun _ _ => okD_str _ _
/-- a changed number is asked -/
theorem asked {o : Str} (h : isN o) : m_is_number (eS o) = .ok true ∧ m_is_sound (eS o) = .ok (sound o.cps.toList) ∧ m__law_told 1 (eS o) = .ok (eI (sumW 0 o.cps.toList)) ∧ m__law_is_sound o = .ok (sound o.cps.toList) ∧ m__law_sum o = .ok (sumW 0 o.cps.toList) := by
  obtain ⟨l, rfl, hl, hd⟩ := h
  refine ⟨(num_eq (sm_tx (by omega))).trans (congrArg Res.ok (hsB_tx.mpr ⟨hl, hd⟩)), snd_eq hd hl, ?_, lsnd_eq hd (by omega), lsum_eq hd (by omega)⟩
  rw [told1, so_eq hd hl]
  rfl
theorem bent_no {l : List Nat} {i b : Nat} (hb : b ∉ figs) (hi : i < l.length) (hl : l.length = 12) : hsB (eS (tx (l.take i ++ [b] ++ l.drop (i + 1)))) 12 = false :=
  Bool.eq_false_iff.mpr fun z => hb ((hsB_tx.mp z).2 b (by simp))
theorem law_ok (ds : List Nat) : m_law ds = .ok true := by
  unfold m_law
  refine run_sat (sat_lt (sat_grd (bnd_of (by omega)) (sat_bindI (fun _ => True) (sat_forA (fun _ => True) trivial (fun _ _ d _ => ?_) fun _ _ => trivial) fun d1 _ => ?_)))
  · obtain ⟨l, d2, en, hl, hd⟩ := lnum_ok d
    dsimp only
    rw [en, get_ok]
    refine sat_grd rfl (sat_lt (sat_lt ?_))
    dsimp only
    rw [lsnd_eq hd (by omega), get_ok]
    refine sat_grd rfl (sat_lt (sat_grd ⟨bnd_of (by omega), fun x hx => ?_, sz _ (by rw [rngI_len]; decide)⟩ (sat_lt (sat_lt ?_))))
    · have := rngI_mem.mp hx
      exact sw_grd hl this.1 this.2
    have hsw : ∀ z ∈ swaps (tx l), isN z := fun z hz => swaps_ok hd hl hz
    have hlen : (swaps (tx l)).length = 11 := by
      unfold swaps
      rw [List.length_map, rngI_len]
      rfl
    have ef : (((swaps (tx l)).filter fun x10 : Str => ((!(x10 == tx l)) && (m__law_is_sound x10).get)).map fun x10 : Str => x10) = (swaps (tx l)).filter fun o => isSlip (tx l) o := by
      rw [List.map_id']
      refine List.filter_congr fun z hz => ?_
      rw [(isN_snd (hsw z hz)).2, get_ok]
      rfl
    show Sat _ (Ctl.bind (bif sound l then (grd ((∀ x10 ∈ swaps (tx l), ((!(x10 == tx l)) = true → (m__law_is_sound x10).isOk = true)) ∧ (swaps (tx l)).length < sizeLine ∧ (((swaps (tx l)).filter fun x10 : Str => ((!(x10 == tx l)) && (m__law_is_sound x10).get)).map fun x10 : Str => x10).length + 1 < scanBound)
      (lt ((eL eS) (usortS (((swaps (tx l)).filter fun x10 : Str => ((!(x10 == tx l)) && (m__law_is_sound x10).get)).map fun x10 : Str => x10))) fun v_slips : PyData => (.nx v_slips))) else (.nx _)) _)
    rw [ef]
    have hfl : ((swaps (tx l)).filter fun o => isSlip (tx l) o).length ≤ 11 := by
      have := List.length_filter_le (fun o => isSlip (tx l) o) (swaps (tx l))
      omega
    refine sat_bindI (fun sl => m__law_told 2 (eS (tx l)) = .ok sl ∧ okD 7 sl) (sat_if (fun hs => ?_) fun hs => ?_) fun sl hsl => ?_
    · refine sat_grd ⟨fun z hz _ => by rw [(isN_snd (hsw z hz)).2]; rfl, sz _ (by omega), by show _ < 4096; omega⟩ (sat_lt (sat_nx ⟨?_, ?_⟩))
      · rw [told2, sl_eq hd hl hs]
        rfl
      · refine okD_strs ?_ 6
        have := once_len ((swaps (tx l)).filter fun o => isSlip (tx l) o)
        have e := (sortS_perm (onceAll ((swaps (tx l)).filter fun o => isSlip (tx l) o))).length_eq
        show (sortS _).length ≤ _
        omega
    · refine sat_nx ⟨?_, okD_flag 0 6⟩
      rw [told2, sl_no ((snd_eq hd hl).trans (congrArg Res.ok hs))]
      rfl
    obtain ⟨hs1, hs2⟩ := hsl
    refine sat_lt (sat_grd (bnd_of (by omega)) (sat_bindI (fun k => k = kinL (tx l) 12) (sat_for (fun i s => s = kinL (tx l) i) rfl (fun i x s hi hI => ?_) fun s hI => hI) fun kin hk => ?_))
    · obtain ⟨ex, hi2⟩ := rngI_get hi
      have hx0 : (0 : Int) ≤ x := by omega
      have hx1 : x < 12 := by omega
      subst hI
      have g := kin_grd hl hx0 hx1
      refine sat_grd ⟨g.1, g.2, szl _ ?_⟩ (sat_lt (sat_nx ?_))
      · have a := kinL_len (tx l) i (by omega)
        have b : (((sgns ("0123456789" : Str)).filter fun x21 : Str => (!(x21 == (ixS (tx l) x)))).map fun x21 : Str => (((cutStr (tx l) none (some x)) ++ x21) ++ (cutStr (tx l) (some (x + (1 : Int))) none))).length ≤ 10 := kinAt_len (tx l) x
        omega
      · exact (kinL_succ (tx l) hi).symm
    subst hk
    have hkok : ∀ z ∈ kinL (tx l) 12, isN z := fun z hz => kinL_ok hd hl hz
    have hkl := kinL_len (tx l) 12 (Nat.le_refl _)
    have ecut : cutStr (tx l) none (some (11 : Int)) = tx (l.take 11) := cut_tx_to l 11
    have ht : (l.take 11).length = 11 := by rw [List.length_take]; omega
    have htd := dg_take 11 hd
    have efk : (((kinL (tx l) 12).filter fun x28 : Str => (m__law_is_sound x28).get).map fun x28 : Str => x28) = fineL (kinL (tx l) 12) := by
      rw [List.map_id']
      refine List.filter_congr fun z hz => ?_
      rw [(isN_snd (hkok z hz)).2, get_ok]
    have n1 : m_is_number (eS (tx l)) = .ok true := (num_eq (sm_tx (by omega))).trans (congrArg Res.ok (hsB_tx.mpr ⟨hl, hd⟩))
    have t0 : m__law_told 0 (eS (tx (l.take 11))) = .ok (eS (cf (l.take 11))) := by
      rw [told0, cf_eq htd ht]
      rfl
    have t1 : m__law_told 1 (eS (tx l)) = .ok (eI (sumW 0 l)) := by
      rw [told1, so_eq hd hl]
      rfl
    have t3 : m__law_told 3 (eS (tx l)) = .ok (eL eS (sortS (fineL (kinL (tx l) 12)))) := by
      rw [told3, ki_eq hd hl]
      rfl
    have emap : (([(1 : Int), (2 : Int), (3 : Int)] : List Int).map fun x34 : Int => (m__law_told x34 (eS (tx l))).get) = [eI (sumW 0 l), sl, eL eS (sortS (fineL (kinL (tx l) 12)))] := by
      show [(m__law_told 1 (eS (tx l))).get, (m__law_told 2 (eS (tx l))).get, (m__law_told 3 (eS (tx l))).get] = _
      rw [t1, hs1, t3]
      rfl
    rw [ecut, lcheck_eq htd ht, lsum_eq hd (by omega), efk, t0, emap, n1, snd_eq hd hl]
    have hfk : (sortS (fineL (kinL (tx l) 12))).length ≤ 120 := by
      rw [(sortS_perm _).length_eq]
      exact Nat.le_trans (List.length_filter_le _ _) hkl
    have okk : okD 8 ((eL eD) ([eB true, eB (sound l)] ++ ([eS (cf (l.take 11))] ++ [eI (sumW 0 l), sl, eL eS (sortS (fineL (kinL (tx l) 12)))]) : List PyData)) := by
      refine okD_L (by simp) fun x hx => ?_
      simp only [List.mem_append, List.mem_cons, List.not_mem_nil, or_false] at hx
      rcases hx with (rfl | rfl) | rfl | rfl | rfl | rfl
      · exact okD_bool _ _
      · exact okD_bool _ _
      · exact okD_str _ _
      · exact okD_int _ _
      · exact hs2
      · exact okD_strs (by omega) 6
    have esame : m__law_same ((eL eD) ([eB true, eB (sound l)] ++ ([eS (cf (l.take 11))] ++ [eI (sumW 0 l), sl, eL eS (sortS (fineL (kinL (tx l) 12)))]) : List PyData)) ((eL eD) ([eB true, eB (sound l)] ++ [eS (cf (l.take 11)), eI (sumW 0 l), sl, eL eS (sortS (fineL (kinL (tx l) 12)))] : List PyData)) = .ok true := same_of rfl okk
    refine sat_grd ⟨by rw [tx_len]; exact szl _ (by omega), rfl, rfl, fun z hz => by rw [(isN_snd (hkok z hz)).2]; rfl, sz _ (by omega)⟩ (sat_lt (sat_grd ⟨by rw [tx_len]; exact szl _ (by omega), rfl, fun x hx => ?_, sz _ (by decide), szl _ (by simp)⟩ (sat_lt ?_)))
    · simp only [List.mem_cons, List.not_mem_nil, or_false] at hx
      rcases hx with rfl | rfl | rfl
      · rw [t1]; rfl
      · rw [hs1]; rfl
      · rw [t3]; rfl
    dsimp only [get_ok]
    rw [esame]
    have hkne : kinL (tx l) 12 ≠ [] := by
      intro z
      have hx : (rngI 0 (12 : Int))[0]? = some (0 : Int) := rfl
      have e1 : kinL (tx l) 1 = kinAt (tx l) 0 := by
        rw [kinL_succ (tx l) hx]
        rfl
      have hsub : kinAt (tx l) 0 ≠ [] := by
        have a : l[0]? = some l[0] := List.getElem?_eq_getElem (by omega)
        have : ∃ c ∈ figs, c ≠ l[0] := by
          by_cases h : l[0] = 48
          · exact ⟨49, by decide, by omega⟩
          · exact ⟨48, by decide, fun e => h e.symm⟩
        obtain ⟨c, hc, hne⟩ := this
        have : (tx [c]) ∈ (sgns ("0123456789" : Str)).filter fun x21 : Str => (!(x21 == (ixS (tx l) 0))) := by
          refine List.mem_filter.mpr ⟨by rw [FIG_sgns]; exact List.mem_map.mpr ⟨c, hc, rfl⟩, ?_⟩
          rw [show (0 : Int) = ((0 : Nat) : Int) from rfl, ixS_tx a, Bool.not_eq_true', beq_eq_false_iff_ne]
          intro e
          have := tx_inj.mp e
          injection this with e1
          exact hne e1
        unfold kinAt
        intro z
        rw [List.map_eq_nil_iff.mp z] at this
        cases this
      have : kinAt (tx l) 0 = [] := by
        have hm : ∀ z ∈ kinAt (tx l) 0, z ∈ kinL (tx l) 12 := fun z hz => List.mem_flatMap.mpr ⟨0, by decide +kernel, hz⟩
        cases e : kinAt (tx l) 0 with
        | nil => rfl
        | cons a r =>
          have := hm a (by rw [e]; exact List.mem_cons_self)
          rw [z] at this
          cases this
      exact hsub this
    have hsne : swaps (tx l) ≠ [] := by
      intro z
      rw [z] at hlen
      cases hlen
    refine sat_grd ⟨rfl, rfl, szl _ (by simp), szl _ (by simp), rfl⟩ (sat_f rfl (sat_grd ⟨hsne, hkne⟩ (sat_bindI (fun _ => True) (sat_forA (fun _ => True) trivial (fun o ho d3 _ => ?_) fun _ _ => trivial) fun _ _ => sat_nx trivial)))
    have hoN : isN o := by
      simp only [List.mem_cons, List.not_mem_nil, or_false] at ho
      rcases ho with rfl | rfl
      · exact hsw _ (pk_mem hsne)
      · exact hkok _ (pk_mem hkne)
    obtain ⟨a1, a2, a3, a4, a5⟩ := asked hoN
    dsimp only
    rw [a1, a2, a3, a4, a5]
    dsimp only [get_ok]
    have e : m__law_same ((eL eD) ([eB true, eB (sound o.cps.toList), eI (sumW 0 o.cps.toList)] : List PyData)) ((eL eD) ([eB true, eB (sound o.cps.toList), eI (sumW 0 o.cps.toList)] : List PyData)) = .ok true := same_of rfl (okD_L (by simp) fun x hx => by
      simp only [List.mem_cons, List.not_mem_nil, or_false] at hx
      rcases hx with rfl | rfl | rfl
      · exact okD_bool _ _
      · exact okD_bool _ _
      · exact okD_int _ _)
    rw [e]
    exact sat_grd ⟨rfl, rfl, rfl, rfl, rfl, rfl⟩ (sat_f rfl (sat_nx trivial))
  · obtain ⟨l, d2, en, hl, hd⟩ := lnum_ok d1
    dsimp only
    rw [en, get_ok]
    refine sat_grd rfl (sat_lt (sat_lt (sat_lt (sat_lt ?_))))
    dsimp only
    have hat := tkV_bd (ds := d2) (b := 12) (by decide)
    obtain ⟨i, ei⟩ : ∃ i : Nat, tkV d2 12 = (i : Int) := ⟨(tkV d2 12).toNat, by omega⟩
    have hi : i < 12 := by omega
    have hbne : ([("a" : Str), (" " : Str), ("?" : Str), ("-" : Str), ("." : Str)] : List Str) ≠ [] := by simp
    have hb : ∃ b, b ∉ figs ∧ pkV (tkD d2) ([("a" : Str), (" " : Str), ("?" : Str), ("-" : Str), ("." : Str)] : List Str) = tx [b] := by
      have := pk_mem (ds := tkD d2) hbne
      simp only [List.mem_cons, List.not_mem_nil, or_false] at this
      rcases this with h | h | h | h | h
      · exact ⟨97, by decide, h.trans (by decide +kernel)⟩
      · exact ⟨32, by decide, h.trans (by decide +kernel)⟩
      · exact ⟨63, by decide, h.trans (by decide +kernel)⟩
      · exact ⟨45, by decide, h.trans (by decide +kernel)⟩
      · exact ⟨46, by decide, h.trans (by decide +kernel)⟩
    obtain ⟨b, hbf, eb⟩ := hb
    rw [ei, eb, cut_tx_to, show ((i : Int) + 1) = ((i + 1 : Nat) : Int) by omega, cut_tx_from, show (11 : Int) = ((11 : Nat) : Int) from rfl, cut_tx_to, show (10 : Int) = ((10 : Nat) : Int) from rfl, cut_tx_to]
    have s0 : (("0" : Str)) = tx [48] := by decide +kernel
    have sa : (("a" : Str)) = tx [97] := by decide +kernel
    have se : (("" : Str)) = tx [] := by decide +kernel
    rw [s0, sa, se, tx_app, tx_app, tx_app, tx_app, tx_app]
    have lt1 : (l.take i).length ≤ 12 := by rw [List.length_take]; omega
    have lt2 : (l.drop (i + 1)).length ≤ 12 := by rw [List.length_drop]; omega
    refine sat_grd ⟨by rw [tx_len]; exact szl _ (by omega), by simp, by rw [tx_len, tx_len]; exact szl _ (by simp; omega), by rw [tx_len, tx_len]; exact szl _ (by simp; omega)⟩ (sat_lt (sat_lt (sat_grd ⟨by rw [tx_len]; exact szl _ (by omega), by rw [tx_len, tx_len]; exact szl _ (by simp; omega), num_int hd hl, by rw [tx_len, tx_len]; exact szl _ (by omega)⟩ (sat_bindI (fun _ => True) (sat_forA (fun _ => True) trivial (fun v hv _ _ => ?_) fun _ _ => trivial) fun _ _ => ?_))))
    · have hno : sm v ∧ hsB v 12 = false := by
        simp only [List.mem_cons, List.not_mem_nil, or_false] at hv
        rcases hv with rfl | rfl | rfl | rfl | rfl | rfl | rfl | rfl | rfl | rfl
        · exact ⟨sm_tx (by rw [List.length_take]; omega), not_len (by rw [List.length_take]; omega)⟩
        · exact ⟨sm_tx (by rw [List.length_append]; simp; omega), not_len (by rw [List.length_append]; simp; omega)⟩
        · exact ⟨sm_tx (by simp; omega), bent_no hbf (by omega) hl⟩
        · exact ⟨sm_tx (by simp), not_len (by simp)⟩
        · exact ⟨trivial, rfl⟩
        · exact ⟨trivial, rfl⟩
        · exact ⟨trivial, rfl⟩
        · exact ⟨trivial, rfl⟩
        · exact ⟨trivial, rfl⟩
        · exact ⟨sm_tx (by rw [List.length_append]; omega), not_len (by rw [List.length_append, List.length_take, List.length_drop]; omega)⟩
      obtain ⟨z1, z2, z3, z4, z5⟩ := none12 hno.1 hno.2
      dsimp only
      rw [z1, z2, z3, z4, z5]
      dsimp only [get_ok]
      have e : m__law_same ((eL eD) ([eB false, eB false, flag 0, flag 0, flag 0] : List PyData)) ((eL eD) ([eB false, eB false, (eL eB) ([true, false, false, false, false] : List Bool), (eL eB) ([true, false, false, false, false] : List Bool), (eL eB) ([true, false, false, false, false] : List Bool)] : List PyData)) = .ok true := same_of rfl (okD_L (by simp) fun x hx => by
        simp only [List.mem_cons, List.not_mem_nil, or_false] at hx
        rcases hx with rfl | rfl | rfl | rfl | rfl
        · exact okD_bool _ _
        · exact okD_bool _ _
        · exact okD_flag 0 6
        · exact okD_flag 0 6
        · exact okD_flag 0 6)
      rw [e]
      exact sat_grd ⟨rfl, rfl, rfl, rfl, rfl, rfl⟩ (sat_f rfl (sat_nx trivial))
    refine sat_grd ⟨by rw [tx_len]; exact szl _ (by omega), by rw [tx_len, tx_len]; exact szl _ (by simp; omega)⟩ (sat_bindI (fun _ => True) (sat_forA (fun _ => True) trivial (fun v hv _ _ => ?_) fun _ _ => trivial) fun _ _ => ?_)
    · have hno : sm v ∧ hsB v 11 = false := by
        simp only [List.mem_cons, List.not_mem_nil, or_false] at hv
        rcases hv with rfl | rfl | rfl | rfl | rfl | rfl
        · exact ⟨sm_tx (by omega), not_len (by omega)⟩
        · exact ⟨sm_tx (by rw [List.length_take]; omega), not_len (by rw [List.length_take]; omega)⟩
        · refine ⟨sm_tx (by simp; omega), Bool.eq_false_iff.mpr fun z => ?_⟩
          have := (hsB_tx.mp z).2 97 (by simp)
          revert this
          decide
        · exact ⟨trivial, rfl⟩
        · exact ⟨trivial, rfl⟩
        · exact ⟨trivial, rfl⟩
      dsimp only
      rw [none11 hno.1 hno.2]
      have e : m__law_same (flag 0) ((eL eB) ([true, false, false, false, false] : List Bool)) = .ok true := same_of rfl (okD_flag 0 7)
      rw [get_ok, e]
      exact sat_grd ⟨rfl, rfl⟩ (sat_f rfl (sat_nx trivial))
    have x1 : ("31812643017" : Str) = tx [51, 49, 56, 49, 50, 54, 52, 51, 48, 49, 55] := by decide +kernel
    have x2 : ("318126430178" : Str) = tx [51, 49, 56, 49, 50, 54, 52, 51, 48, 49, 55, 56] := by decide +kernel
    have x3 : ("090000000001" : Str) = tx [48, 57, 48, 48, 48, 48, 48, 48, 48, 48, 48, 49] := by decide +kernel
    have y1 : m_check_figure (eS ("31812643017" : Str)) = .ok ("8" : Str) := by
      rw [x1, cf_eq (by unfold dg; decide) rfl]
      exact congrArg Res.ok (by decide +kernel)
    have y2 : m_sum_of (eS ("318126430178" : Str)) = .ok 50 := by
      rw [x2, so_eq (by unfold dg; decide) rfl]
      exact congrArg Res.ok (by decide +kernel)
    have y3 : m_slips_of (eS ("090000000001" : Str)) = .ok [("009000000001" : Str), ("900000000001" : Str)] := by
      rw [x3, sl_eq (by unfold dg; decide) rfl (by decide +kernel)]
      have f1 : onceAll ((swaps (tx [48, 57, 48, 48, 48, 48, 48, 48, 48, 48, 48, 49])).filter fun o => isSlip (tx [48, 57, 48, 48, 48, 48, 48, 48, 48, 48, 48, 49]) o) = [("009000000001" : Str), ("900000000001" : Str)] := by decide +kernel
      unfold usortS
      rw [f1]
      refine congrArg Res.ok (sortS_uniq ?_ ?_).symm
      · exact .refl _
      · exact List.pairwise_pair.mpr (by unfold leS; decide +kernel)
    rw [y1, y2, y3]
    dsimp only [get_ok]
    have e : m__law_same ((eL eD) ([eS ("8" : Str), eI 50, (eL eS) ([("009000000001" : Str), ("900000000001" : Str)] : List Str)] : List PyData)) ((eL eD) ([eS ("8" : Str), eI 50, (eL eS) ([("009000000001" : Str), ("900000000001" : Str)] : List Str)] : List PyData)) = .ok true := same_of rfl (okD_L (by simp) fun x hx => by
      simp only [List.mem_cons, List.not_mem_nil, or_false] at hx
      rcases hx with rfl | rfl | rfl
      · exact okD_str _ _
      · exact okD_int _ _
      · exact okD_strs (by simp) 6)
    rw [e]
    exact sat_grd ⟨rfl, rfl, rfl, rfl⟩ (sat_rt rfl)
end W03

set_option Elab.async false
set_option linter.all false
set_option maxRecDepth 100000
set_option maxHeartbeats 4000000
namespace W03
open PySem PySem.Spec PyProof.Rows L2 Z Y
def dd (x : Str) (st : Stmt) : He.DefD := ⟨(x, none), x, x, defArgs st, defBody st, defScope st, [], []⟩
def fns : List He.DefD := [dd "has_signs" s_has_signs, dd "is_number" s_is_number, dd "weight_of" s_weight_of, dd "sum_by" s_sum_by, dd "is_sound" s_is_sound, dd "check_is" s_check_is, dd "check_figure" s_check_figure, dd "sum_of" s_sum_of, dd "slips_of" s_slips_of, dd "kin_of" s_kin_of, dd "_law_draws" s__law_draws, dd "_law_take" s__law_take, dd "_law_pick" s__law_pick, dd "_law_same" s__law_same, dd "_law_flags" s__law_flags, dd "_law_sum" s__law_sum, dd "_law_is_sound" s__law_is_sound, dd "_law_check" s__law_check, dd "_law_number" s__law_number, dd "_law_told" s__law_told, dd "law" s_law]
def fas : List He.Fa := [.glo "has_signs", .glo "is_number", .glo "weight_of", .glo "sum_by", .glo "is_sound", .glo "check_is", .glo "check_figure", .glo "sum_of", .glo "slips_of", .glo "kin_of", .glo "_law_draws", .glo "_law_take", .glo "_law_pick", .glo "_law_same", .glo "_law_flags", .glo "_law_sum", .glo "_law_is_sound", .glo "_law_check", .glo "_law_number", .glo "_law_told", .glo "law", .glo "YardError", .glo "NotRight", .glo "NotThere", .glo "NoAnswer", .glo "TooLarge", .glo "Malformed", .free "isinstance", .free "str", .free "all", .free "len", .free "sum", .free "int", .free "enumerate", .free "range", .free "sorted", .free "set", .free "abs", .free "list", .free "reversed", .free "tuple", .free "dict", .free "bool", .int "LONG" 12, .str "FIGURES" "0123456789", .exc "NotRight", .exm "NotRight" "YardError" true]
def fl_NotRight : List (Str × Bool) := [("NotRight", true), ("NotThere", false), ("NoAnswer", false), ("TooLarge", false), ("Malformed", false)]
def exK (K : PySem.W.Frag) : Bool := flagsB K "NotRight" fl_NotRight
abbrev R : PySem.W.OpenRow := PySem.W.OpenLaw.row PySem.Challenge.rw_humpyard_k03_whole_numbers_of_wagons
abbrev hk : PySem.W.Hook := He.hookX 5 fas fns [] [] exK
def ob (s : PySem.W.SharedT) : He.AlX := He.obsX 5 fas fns [] [] exK (HandSHeadRun.getT s)
theorem ob_eq (s : PySem.W.SharedT) : ob s = hk.obs s.abs := He.obsX_eq (HandSHeadRun.getT_eq s)
def caK (K : PySem.W.Frag) : Nat → Addr := fun c => [He.ga K "NotRight", He.ga K "NotThere", He.ga K "NoAnswer", He.ga K "TooLarge", He.ga K "Malformed"].getD c 0
def loose : List Str := (["YardError", "NotRight", "NotThere", "NoAnswer", "TooLarge", "Malformed", "FIGURES", "LONG", "has_signs", "is_number", "weight_of", "sum_by"] : List Str) ++ (["is_sound", "check_is", "check_figure", "sum_of", "slips_of", "kin_of", "_law_draws", "_law_take", "_law_pick", "_law_same", "_law_flags", "_law_sum"] : List Str) ++ (["_law_is_sound", "_law_check", "_law_number", "_law_told"] : List Str)
theorem run (w : World) : HandSHeadRun.RunEq R (PySem.W.view R.prog [31]) hk ob 6000 loose w := by
  intro os
  kernel_rfl
theorem facts {P : Program} {w : World} {K : PySem.W.Frag} {h : Heap} {mg : Str → Option Value} {f : Addr} (X : K.In h) (G : h.Ns mainGlobals mg) (hfa : mg ("law" : Str) = some (.ref f)) (c : He.SaysX fas fns [] [] exK w h K) :
    ∃ fd : FuncData, (∀ (s : Shared) (v : Value), BindsTo s fd ⟨[v], []⟩ [("script", v)]) ∧ ∀ base : Heap, K.In base → base.Ns mainGlobals mg → FnOk P w K mg base CX0 10 f fd ["script"] (lift K dLaw) := by
  obtain ⟨fd_has_signs, F_has_signs⟩ := c.t.d.def_ 0 (d := dd "has_signs" s_has_signs) rfl
  have G_has_signs : Fun K "has_signs" "has_signs" s_has_signs (He.ga K "has_signs") fd_has_signs := fun_of F_has_signs
  have D_has_signs : DefAt K mg "has_signs" s_has_signs ps_has_signs (He.ga K "has_signs") fd_has_signs := ⟨He.glo_ok X G (c.t.d.fact 0 (f := .glo "has_signs") rfl), G_has_signs, G_has_signs.binds (ps := ps_has_signs) fun _ _ _ _ _ _ us hl => match us, hl with | [_, _, _], _ => rfl⟩
  obtain ⟨fd_is_number, F_is_number⟩ := c.t.d.def_ 1 (d := dd "is_number" s_is_number) rfl
  have G_is_number : Fun K "is_number" "is_number" s_is_number (He.ga K "is_number") fd_is_number := fun_of F_is_number
  have D_is_number : DefAt K mg "is_number" s_is_number ps_is_number (He.ga K "is_number") fd_is_number := ⟨He.glo_ok X G (c.t.d.fact 1 (f := .glo "is_number") rfl), G_is_number, G_is_number.binds (ps := ps_is_number) fun _ _ _ _ _ _ us hl => match us, hl with | [_], _ => rfl⟩
  obtain ⟨fd_weight_of, F_weight_of⟩ := c.t.d.def_ 2 (d := dd "weight_of" s_weight_of) rfl
  have G_weight_of : Fun K "weight_of" "weight_of" s_weight_of (He.ga K "weight_of") fd_weight_of := fun_of F_weight_of
  have D_weight_of : DefAt K mg "weight_of" s_weight_of ps_weight_of (He.ga K "weight_of") fd_weight_of := ⟨He.glo_ok X G (c.t.d.fact 2 (f := .glo "weight_of") rfl), G_weight_of, G_weight_of.binds (ps := ps_weight_of) fun _ _ _ _ _ _ us hl => match us, hl with | [_, _], _ => rfl⟩
  obtain ⟨fd_sum_by, F_sum_by⟩ := c.t.d.def_ 3 (d := dd "sum_by" s_sum_by) rfl
  have G_sum_by : Fun K "sum_by" "sum_by" s_sum_by (He.ga K "sum_by") fd_sum_by := fun_of F_sum_by
  have D_sum_by : DefAt K mg "sum_by" s_sum_by ps_sum_by (He.ga K "sum_by") fd_sum_by := ⟨He.glo_ok X G (c.t.d.fact 3 (f := .glo "sum_by") rfl), G_sum_by, G_sum_by.binds (ps := ps_sum_by) fun _ _ _ _ _ _ us hl => match us, hl with | [_], _ => rfl⟩
  obtain ⟨fd_is_sound, F_is_sound⟩ := c.t.d.def_ 4 (d := dd "is_sound" s_is_sound) rfl
  have G_is_sound : Fun K "is_sound" "is_sound" s_is_sound (He.ga K "is_sound") fd_is_sound := fun_of F_is_sound
  have D_is_sound : DefAt K mg "is_sound" s_is_sound ps_is_sound (He.ga K "is_sound") fd_is_sound := ⟨He.glo_ok X G (c.t.d.fact 4 (f := .glo "is_sound") rfl), G_is_sound, G_is_sound.binds (ps := ps_is_sound) fun _ _ _ _ _ _ us hl => match us, hl with | [_], _ => rfl⟩
  obtain ⟨fd_check_is, F_check_is⟩ := c.t.d.def_ 5 (d := dd "check_is" s_check_is) rfl
  have G_check_is : Fun K "check_is" "check_is" s_check_is (He.ga K "check_is") fd_check_is := fun_of F_check_is
  have D_check_is : DefAt K mg "check_is" s_check_is ps_check_is (He.ga K "check_is") fd_check_is := ⟨He.glo_ok X G (c.t.d.fact 5 (f := .glo "check_is") rfl), G_check_is, G_check_is.binds (ps := ps_check_is) fun _ _ _ _ _ _ us hl => match us, hl with | [_], _ => rfl⟩
  obtain ⟨fd_check_figure, F_check_figure⟩ := c.t.d.def_ 6 (d := dd "check_figure" s_check_figure) rfl
  have G_check_figure : Fun K "check_figure" "check_figure" s_check_figure (He.ga K "check_figure") fd_check_figure := fun_of F_check_figure
  have D_check_figure : DefAt K mg "check_figure" s_check_figure ps_check_figure (He.ga K "check_figure") fd_check_figure := ⟨He.glo_ok X G (c.t.d.fact 6 (f := .glo "check_figure") rfl), G_check_figure, G_check_figure.binds (ps := ps_check_figure) fun _ _ _ _ _ _ us hl => match us, hl with | [_], _ => rfl⟩
  obtain ⟨fd_sum_of, F_sum_of⟩ := c.t.d.def_ 7 (d := dd "sum_of" s_sum_of) rfl
  have G_sum_of : Fun K "sum_of" "sum_of" s_sum_of (He.ga K "sum_of") fd_sum_of := fun_of F_sum_of
  have D_sum_of : DefAt K mg "sum_of" s_sum_of ps_sum_of (He.ga K "sum_of") fd_sum_of := ⟨He.glo_ok X G (c.t.d.fact 7 (f := .glo "sum_of") rfl), G_sum_of, G_sum_of.binds (ps := ps_sum_of) fun _ _ _ _ _ _ us hl => match us, hl with | [_], _ => rfl⟩
  obtain ⟨fd_slips_of, F_slips_of⟩ := c.t.d.def_ 8 (d := dd "slips_of" s_slips_of) rfl
  have G_slips_of : Fun K "slips_of" "slips_of" s_slips_of (He.ga K "slips_of") fd_slips_of := fun_of F_slips_of
  have D_slips_of : DefAt K mg "slips_of" s_slips_of ps_slips_of (He.ga K "slips_of") fd_slips_of := ⟨He.glo_ok X G (c.t.d.fact 8 (f := .glo "slips_of") rfl), G_slips_of, G_slips_of.binds (ps := ps_slips_of) fun _ _ _ _ _ _ us hl => match us, hl with | [_], _ => rfl⟩
  obtain ⟨fd_kin_of, F_kin_of⟩ := c.t.d.def_ 9 (d := dd "kin_of" s_kin_of) rfl
  have G_kin_of : Fun K "kin_of" "kin_of" s_kin_of (He.ga K "kin_of") fd_kin_of := fun_of F_kin_of
  have D_kin_of : DefAt K mg "kin_of" s_kin_of ps_kin_of (He.ga K "kin_of") fd_kin_of := ⟨He.glo_ok X G (c.t.d.fact 9 (f := .glo "kin_of") rfl), G_kin_of, G_kin_of.binds (ps := ps_kin_of) fun _ _ _ _ _ _ us hl => match us, hl with | [_], _ => rfl⟩
  obtain ⟨fd__law_draws, F__law_draws⟩ := c.t.d.def_ 10 (d := dd "_law_draws" s__law_draws) rfl
  have G__law_draws : Fun K "_law_draws" "_law_draws" s__law_draws (He.ga K "_law_draws") fd__law_draws := fun_of F__law_draws
  have D__law_draws : DefAt K mg "_law_draws" s__law_draws ps__law_draws (He.ga K "_law_draws") fd__law_draws := ⟨He.glo_ok X G (c.t.d.fact 10 (f := .glo "_law_draws") rfl), G__law_draws, G__law_draws.binds (ps := ps__law_draws) fun _ _ _ _ _ _ us hl => match us, hl with | [_], _ => rfl⟩
  obtain ⟨fd__law_take, F__law_take⟩ := c.t.d.def_ 11 (d := dd "_law_take" s__law_take) rfl
  have G__law_take : Fun K "_law_take" "_law_take" s__law_take (He.ga K "_law_take") fd__law_take := fun_of F__law_take
  have D__law_take : DefAt K mg "_law_take" s__law_take ps__law_take (He.ga K "_law_take") fd__law_take := ⟨He.glo_ok X G (c.t.d.fact 11 (f := .glo "_law_take") rfl), G__law_take, G__law_take.binds (ps := ps__law_take) fun _ _ _ _ _ _ us hl => match us, hl with | [_, _], _ => rfl⟩
  obtain ⟨fd__law_pick, F__law_pick⟩ := c.t.d.def_ 12 (d := dd "_law_pick" s__law_pick) rfl
  have G__law_pick : Fun K "_law_pick" "_law_pick" s__law_pick (He.ga K "_law_pick") fd__law_pick := fun_of F__law_pick
  have D__law_pick : DefAt K mg "_law_pick" s__law_pick ps__law_pick (He.ga K "_law_pick") fd__law_pick := ⟨He.glo_ok X G (c.t.d.fact 12 (f := .glo "_law_pick") rfl), G__law_pick, G__law_pick.binds (ps := ps__law_pick) fun _ _ _ _ _ _ us hl => match us, hl with | [_, _], _ => rfl⟩
  obtain ⟨fd__law_same, F__law_same⟩ := c.t.d.def_ 13 (d := dd "_law_same" s__law_same) rfl
  have G__law_same : Fun K "_law_same" "_law_same" s__law_same (He.ga K "_law_same") fd__law_same := fun_of F__law_same
  have D__law_same : DefAt K mg "_law_same" s__law_same ps__law_same (He.ga K "_law_same") fd__law_same := ⟨He.glo_ok X G (c.t.d.fact 13 (f := .glo "_law_same") rfl), G__law_same, G__law_same.binds (ps := ps__law_same) fun _ _ _ _ _ _ us hl => match us, hl with | [_, _], _ => rfl⟩
  obtain ⟨fd__law_flags, F__law_flags⟩ := c.t.d.def_ 14 (d := dd "_law_flags" s__law_flags) rfl
  have G__law_flags : Fun K "_law_flags" "_law_flags" s__law_flags (He.ga K "_law_flags") fd__law_flags := fun_of F__law_flags
  have D__law_flags : DefAt K mg "_law_flags" s__law_flags ps__law_flags (He.ga K "_law_flags") fd__law_flags := ⟨He.glo_ok X G (c.t.d.fact 14 (f := .glo "_law_flags") rfl), G__law_flags, G__law_flags.binds (ps := ps__law_flags) fun _ _ _ _ _ _ us hl => match us, hl with | [_], _ => rfl⟩
  obtain ⟨fd__law_sum, F__law_sum⟩ := c.t.d.def_ 15 (d := dd "_law_sum" s__law_sum) rfl
  have G__law_sum : Fun K "_law_sum" "_law_sum" s__law_sum (He.ga K "_law_sum") fd__law_sum := fun_of F__law_sum
  have D__law_sum : DefAt K mg "_law_sum" s__law_sum ps__law_sum (He.ga K "_law_sum") fd__law_sum := ⟨He.glo_ok X G (c.t.d.fact 15 (f := .glo "_law_sum") rfl), G__law_sum, G__law_sum.binds (ps := ps__law_sum) fun _ _ _ _ _ _ us hl => match us, hl with | [_], _ => rfl⟩
  obtain ⟨fd__law_is_sound, F__law_is_sound⟩ := c.t.d.def_ 16 (d := dd "_law_is_sound" s__law_is_sound) rfl
  have G__law_is_sound : Fun K "_law_is_sound" "_law_is_sound" s__law_is_sound (He.ga K "_law_is_sound") fd__law_is_sound := fun_of F__law_is_sound
  have D__law_is_sound : DefAt K mg "_law_is_sound" s__law_is_sound ps__law_is_sound (He.ga K "_law_is_sound") fd__law_is_sound := ⟨He.glo_ok X G (c.t.d.fact 16 (f := .glo "_law_is_sound") rfl), G__law_is_sound, G__law_is_sound.binds (ps := ps__law_is_sound) fun _ _ _ _ _ _ us hl => match us, hl with | [_], _ => rfl⟩
  obtain ⟨fd__law_check, F__law_check⟩ := c.t.d.def_ 17 (d := dd "_law_check" s__law_check) rfl
  have G__law_check : Fun K "_law_check" "_law_check" s__law_check (He.ga K "_law_check") fd__law_check := fun_of F__law_check
  have D__law_check : DefAt K mg "_law_check" s__law_check ps__law_check (He.ga K "_law_check") fd__law_check := ⟨He.glo_ok X G (c.t.d.fact 17 (f := .glo "_law_check") rfl), G__law_check, G__law_check.binds (ps := ps__law_check) fun _ _ _ _ _ _ us hl => match us, hl with | [_], _ => rfl⟩
  obtain ⟨fd__law_number, F__law_number⟩ := c.t.d.def_ 18 (d := dd "_law_number" s__law_number) rfl
  have G__law_number : Fun K "_law_number" "_law_number" s__law_number (He.ga K "_law_number") fd__law_number := fun_of F__law_number
  have D__law_number : DefAt K mg "_law_number" s__law_number ps__law_number (He.ga K "_law_number") fd__law_number := ⟨He.glo_ok X G (c.t.d.fact 18 (f := .glo "_law_number") rfl), G__law_number, G__law_number.binds (ps := ps__law_number) fun _ _ _ _ _ _ us hl => match us, hl with | [_], _ => rfl⟩
  obtain ⟨fd__law_told, F__law_told⟩ := c.t.d.def_ 19 (d := dd "_law_told" s__law_told) rfl
  have G__law_told : Fun K "_law_told" "_law_told" s__law_told (He.ga K "_law_told") fd__law_told := fun_of F__law_told
  have D__law_told : DefAt K mg "_law_told" s__law_told ps__law_told (He.ga K "_law_told") fd__law_told := ⟨He.glo_ok X G (c.t.d.fact 19 (f := .glo "_law_told") rfl), G__law_told, G__law_told.binds (ps := ps__law_told) fun _ _ _ _ _ _ us hl => match us, hl with | [_, _], _ => rfl⟩
  obtain ⟨fd_law, F_law⟩ := c.t.d.def_ 20 (d := dd "law" s_law) rfl
  have G_law : Fun K "law" "law" s_law (He.ga K "law") fd_law := fun_of F_law
  have D_law : DefAt K mg "law" s_law ps_law (He.ga K "law") fd_law := ⟨He.glo_ok X G (c.t.d.fact 20 (f := .glo "law") rfl), G_law, G_law.binds (ps := ps_law) fun _ _ _ _ _ _ us hl => match us, hl with | [_], _ => rfl⟩
  have B_isinstance : mg "isinstance" = none := He.free_ok X G (c.t.d.fact 27 (f := .free "isinstance") rfl)
  have B_str : mg "str" = none := He.free_ok X G (c.t.d.fact 28 (f := .free "str") rfl)
  have B_all : mg "all" = none := He.free_ok X G (c.t.d.fact 29 (f := .free "all") rfl)
  have B_len : mg "len" = none := He.free_ok X G (c.t.d.fact 30 (f := .free "len") rfl)
  have B_sum : mg "sum" = none := He.free_ok X G (c.t.d.fact 31 (f := .free "sum") rfl)
  have B_int : mg "int" = none := He.free_ok X G (c.t.d.fact 32 (f := .free "int") rfl)
  have B_enumerate : mg "enumerate" = none := He.free_ok X G (c.t.d.fact 33 (f := .free "enumerate") rfl)
  have B_range : mg "range" = none := He.free_ok X G (c.t.d.fact 34 (f := .free "range") rfl)
  have B_sorted : mg "sorted" = none := He.free_ok X G (c.t.d.fact 35 (f := .free "sorted") rfl)
  have B_set : mg "set" = none := He.free_ok X G (c.t.d.fact 36 (f := .free "set") rfl)
  have B_abs : mg "abs" = none := He.free_ok X G (c.t.d.fact 37 (f := .free "abs") rfl)
  have B_list : mg "list" = none := He.free_ok X G (c.t.d.fact 38 (f := .free "list") rfl)
  have B_reversed : mg "reversed" = none := He.free_ok X G (c.t.d.fact 39 (f := .free "reversed") rfl)
  have B_tuple : mg "tuple" = none := He.free_ok X G (c.t.d.fact 40 (f := .free "tuple") rfl)
  have B_dict : mg "dict" = none := He.free_ok X G (c.t.d.fact 41 (f := .free "dict") rfl)
  have B_bool : mg "bool" = none := He.free_ok X G (c.t.d.fact 42 (f := .free "bool") rfl)
  obtain ⟨t_LONG, c_LONG⟩ := He.int_ok X G (c.t.d.fact 43 (f := .int "LONG" 12) rfl)
  obtain ⟨t_FIGURES, c_FIGURES⟩ := He.str_ok X G (c.t.d.fact 44 (f := .str "FIGURES" "0123456789") rfl)
  have g_YardError : mg "YardError" = some (.ref (He.ga K "YardError")) := He.glo_ok X G (c.t.d.fact 21 (f := .glo "YardError") rfl)
  have g_NotRight : mg "NotRight" = some (.ref (He.ga K "NotRight")) := He.glo_ok X G (c.t.d.fact 22 (f := .glo "NotRight") rfl)
  have g_NotThere : mg "NotThere" = some (.ref (He.ga K "NotThere")) := He.glo_ok X G (c.t.d.fact 23 (f := .glo "NotThere") rfl)
  have g_NoAnswer : mg "NoAnswer" = some (.ref (He.ga K "NoAnswer")) := He.glo_ok X G (c.t.d.fact 24 (f := .glo "NoAnswer") rfl)
  have g_TooLarge : mg "TooLarge" = some (.ref (He.ga K "TooLarge")) := He.glo_ok X G (c.t.d.fact 25 (f := .glo "TooLarge") rfl)
  have g_Malformed : mg "Malformed" = some (.ref (He.ga K "Malformed")) := He.glo_ok X G (c.t.d.fact 26 (f := .glo "Malformed") rfl)
  have E_NotRight : ErrAt K mg "NotRight" (He.ga K "NotRight") := err_ok X G (c.t.d.fact 45 (f := .exc "NotRight") rfl) (c.t.d.fact 22 (f := .glo "NotRight") rfl)
  have m_NotRight : PySem.W.exmOne K (.ref (He.ga K "NotRight")) (.ref (He.ga K "YardError")) = some true := He.exm_ok (c.t.d.fact 46 (f := .exm "NotRight" "YardError" true) rfl)
  have hex := c.more
  unfold exK at hex
  have f_NotRight := hex
  have X_NotRight := flags_ok f_NotRight
  have FL : ∀ c ∈ ([0] : List Nat), FlagsAt K (caK K c) [He.ga K "NotRight", He.ga K "NotThere", He.ga K "NoAnswer", He.ga K "TooLarge", He.ga K "Malformed"] (flV c) := by
    intro c hc
    simp only [List.mem_cons, List.not_mem_nil, or_false] at hc
    rcases hc with rfl
    · exact X_NotRight
  have EX : ∀ c ∈ ([0] : List Nat), PySem.W.exmOne K (.ref (caK K c)) (.ref (He.ga K "YardError")) = some true := by
    intro c hc
    simp only [List.mem_cons, List.not_mem_nil, or_false] at hc
    rcases hc with rfl
    · exact m_NotRight
  have e := hfa.symm.trans D_law.g
  cases e
  refine ⟨fd_law, fun s v => (FunD.bindsA (ps := ["script"]) (show FunD K "law" "law" (defArgs s_law) (defBody s_law) (defScope s_law) [] [] (He.ga K "law") fd_law from F_law) fun _ _ _ _ _ _ us hl => match us, hl with | [_], _ => rfl) s [v] rfl, fun base _ _ => ?_⟩
  have H__law_take : Has P w K mg base 1 "_law_take" ps__law_take d_take := ok__law_take D__law_take B_len B_int
  have H__law_pick : Has P w K mg base 2 "_law_pick" ps__law_pick d_pick := ok__law_pick D__law_pick B_len H__law_take
  have H__law_draws : Has P w K mg base 1 "_law_draws" ps__law_draws d_draws := ok__law_draws D__law_draws B_int B_abs B_range B_list B_reversed
  have H__law_same : Has P w K mg base 9 "_law_same" ps__law_same d_same := okS__law_same D__law_same B_len B_range B_isinstance B_tuple B_list B_dict B_bool B_int B_str
  have H__law_flags : HasQ P w K mg base 1 "_law_flags" ps__law_flags (spFlags K _) := ok__law_flags D__law_flags B_isinstance ⟨g_NotRight, g_NotThere, g_NoAnswer, g_TooLarge, g_Malformed⟩
  have H_has_signs := ok_has_signs (P := P) (w := w) (base := base) D_has_signs (caK K) B_isinstance B_str B_all B_len
  have H_is_number := ok_is_number (P := P) (w := w) (base := base) D_is_number (caK K) c_LONG c_FIGURES H_has_signs
  have H_weight_of := ok_weight_of (P := P) (w := w) (base := base) D_weight_of (caK K)
  have H_sum_by := ok_sum_by (P := P) (w := w) (base := base) D_sum_by (caK K) B_sum B_int B_enumerate H_weight_of
  have H_is_sound := ok_is_sound (P := P) (w := w) (base := base) D_is_sound (caK K) H_is_number H_sum_by
  have H_check_is := ok_check_is (P := P) (w := w) (base := base) D_check_is (caK K) E_NotRight
  have H_check_figure := ok_check_figure (P := P) (w := w) (base := base) D_check_figure (caK K) B_str c_FIGURES c_LONG H_check_is H_has_signs H_sum_by
  have H_sum_of := ok_sum_of (P := P) (w := w) (base := base) D_sum_of (caK K) H_check_is H_sum_by H_is_number
  have H_slips_of := ok_slips_of (P := P) (w := w) (base := base) D_slips_of (caK K) B_range B_sorted c_LONG H_check_is H_is_sound
  have H_kin_of := ok_kin_of (P := P) (w := w) (base := base) D_kin_of (caK K) B_range B_sorted c_LONG c_FIGURES H_check_is H_is_number H_is_sound
  have H__law_sum := ok__law_sum (P := P) (w := w) (base := base) D__law_sum (caK K) B_range B_len B_int
  have H__law_is_sound := ok__law_is_sound (P := P) (w := w) (base := base) D__law_is_sound (caK K) B_int H__law_sum
  have H__law_check := ok__law_check (P := P) (w := w) (base := base) D__law_check (caK K) H__law_is_sound
  have H__law_number := ok__law_number (P := P) (w := w) (base := base) D__law_number (caK K) B_range H__law_pick H__law_check
  have H__law_told := ok__law_told (P := P) (w := w) (base := base) D__law_told (caK K) g_YardError H__law_flags FL EX H_check_figure H_sum_of H_slips_of H_kin_of
  exact ok_law D_law (caK K) B_range B_int B_sorted B_set H__law_draws H__law_number H__law_take H__law_same H__law_is_sound H__law_check H__law_sum H__law_pick H_check_figure H_sum_of H_slips_of H__law_told H_is_number H_is_sound law_ok
end W03
open PySem PySem.W PySem.Calls PyProof.Rows
set_option maxHeartbeats 0 in
theorem PySem.Challenge.cw_humpyard_k03_whole_numbers_of_wagons_holds : PySem.Challenge.rw_humpyard_k03_whole_numbers_of_wagons.Holds := by
  w_on; o_law
  refine HandSHeadRun.head_any (r := OpenLaw.row PySem.Challenge.rw_humpyard_k03_whole_numbers_of_wagons) (q := view (OpenLaw.row PySem.Challenge.rw_humpyard_k03_whole_numbers_of_wagons).prog [31]) (H := W03.hk) (ob := W03.ob) (M := 6000) (loose := W03.loose) (d := HandSHeadRun.topDef (OpenLaw.row PySem.Challenge.rw_humpyard_k03_whole_numbers_of_wagons).prog 31) (kwd := []) W03.ob_eq
    (by kernel_rfl) (fun s => by kernel_rfl) W03.run (by kernel_rfl) (by kernel_rfl) (by kernel_rfl) (by rfl) (by first | assumption | decide +kernel) (by decide +kernel) ⟨rfl, rfl, rfl, rfl, rfl, by decide +kernel⟩ ?hw ?hc
  case hw => w_witness2
  case hc =>
    refine L2.walk_ofE (l := PySem.Challenge.rw_humpyard_k03_whole_numbers_of_wagons) (n := 63) (k := 10) (x := "script") (CX := L2.CX0) rfl (by decide) (by kernel_rfl) ⟨rfl, by decide, by decide⟩ ?F (fun _ _ _ _ z => z)
    intro w mg fa h Y G hmg0
    obtain ⟨K, KX, c⟩ := Y
    have hmg : mg ("law" : PySem.Str) = some (.ref fa) := by
      have e : (HandSHeadRun.topDef (OpenLaw.row PySem.Challenge.rw_humpyard_k03_whole_numbers_of_wagons).prog 31).name = ("law" : PySem.Str) := by kernel_rfl
      rw [← e]
      exact hmg0
    obtain ⟨fd, hb, hF⟩ := W03.facts (P := (PySem.Challenge.rw_humpyard_k03_whole_numbers_of_wagons).prog) (w := w) KX G hmg c
    exact ⟨K, fd, Z.lift K W03.dLaw, KX, hb, fun H a ns hl _ hS => Z.law_start W03.dLaw (fun k x hk => ⟨ns, rfl, hl, rfl, hk⟩) hS, hF⟩
